import PyProof.Rows.All
import Wide.All
import OpenK.AllK
import Wide.FinOn
import PySem.Challenge.RW_triedagain_k61_open_bounds
import HandS.Base
import HandS.Call
import HandS.Exc
import HandS.Words
import HandS.Flow
import HandS.Comp
import HandS.TupAny
import HandS.Iter
import HandS.TryOnly
import HandS.List
import HandS.Dict
import HandS.Text
import HandS.More
import HandS.IsInst
import HandS.Conv
import HandS.RaiseMore
import HandS.ExcOwn
import HandS.CallSlots
import PyProof.DictUpdate
import HandS.WordsExc
import HandS.Defaults
import PyProof.AutoSeq1
import HandS.HeadHook4
import HandS.HeadEnd
import HandS.Head2
import KE.KIsAll
import HandS.ExcField
import HandS.ExcInit
import KE.KExcSuper
import HandS.HeadHook1
import HandS.TryMany
import HandS.ExcIs
import HandS.ExcBuiltin
import PyProof.ReprRoads
import PyProof.CallFns
import HandS.Style
import HandS.Set
import HandS.SetKeys
import HandS.SetBool
import HandS.SortInts
import HandS.DictTup
import KE.KSortTupAny
import HandS.TupSets
import HandS.AnyAll
import KE.KStateDown
import HandS.Head0
import HandS.Head1
set_option Elab.async false
set_option linter.all false
set_option maxRecDepth 100000
set_option maxHeartbeats 2000000
/-! ShV: a hook that tells that the modules' dict is a dict. -/
namespace Sh
open PySem PySem.Spec PyProof.Rows L2
/-- the module dict's place is no list -/
def SysD (base : Heap) : Prop := ∃ o, base.get? sysModules = some o ∧ o.cls = .type "dict"
def sysB (g : Addr → Option Obj) : Bool := match g sysModules with
  | some o => match o.cls with
    | .type n => n == "dict"
    | _ => false
  | none => false
theorem sysB_ok {h : Heap} (e : sysB h.get? = true) : SysD h := by
  unfold sysB at e
  split at e
  · rename_i o ho
    split at e
    · rename_i n hn
      exact ⟨o, ho, by rw [hn, eq_of_beq e]⟩
    · cases e
  · cases e
/-- a hook, and this -/
def hookS (H0 : PySem.W.Hook) : PySem.W.Hook where
  α := H0.α × Bool
  obs := fun s => (H0.obs s, sysB s.heap.get?)
  val := fun w => (H0.val w, true)
  says := fun w h => H0.says w h ∧ SysD h
  of := fun w s e => ⟨H0.of w s (congrArg (fun z => z.1) e), sysB_ok (congrArg (fun z => z.2) e)⟩
  keeps := fun w h h' ⟨a, o, e1, e2⟩ k => ⟨H0.keeps w h h' a k, o, k _ _ e1, e2⟩
theorem obS_eq {H0 : PySem.W.Hook} {ob : PySem.W.SharedT → H0.α} (e : ∀ s, ob s = H0.obs s.abs) (s : PySem.W.SharedT) : (ob s, sysB (HandSHeadRun.getT s)) = (hookS H0).obs s.abs := by
  have h : HandSHeadRun.getT s = s.abs.heap.get? := funext (HandSHeadRun.getT_eq s)
  show (ob s, sysB (HandSHeadRun.getT s)) = (H0.obs s.abs, sysB s.abs.heap.get?)
  rw [e, h]
/-! ### facts of exceptions, for the head's run -/
/-- what ExcC asks -/
def xcB (K : PySem.W.Frag) (D : Addr) : Bool := decide (PySem.W.findIn K (.ref D) "__getattribute__" = some (some (.builtin "BaseException.__getattribute__"))) && (decide (PySem.W.findIn K (.ref D) "__getattr__" = some none) && (decide (PySem.W.subIn K (.ref D) (.type "BaseException") = some true) && (PySem.W.hasDictIn K D &&
  (decide (PySem.W.findIn K (.ref D) "__class__" = some (some (.builtin "object.__class__"))) && (decide (PySem.W.specialIn K (.builtin "object.__class__") "__get__" = some (some (.builtin "getset_descriptor.__get__"))) && (decide (PySem.W.takesIn K (.builtin "object.__class__") = some true) && decide (PySem.W.mroIn K D (.type "object") = some true)))))))
/-- isinstance's answers: pairs of class and answer -/
def kiB (K : PySem.W.Frag) (cv : Value) (L : List (Str × Bool)) : Bool := L.all fun p => xcB K (He.ga K p.1) && decide (PySem.W.kitOne K (.ref (He.ga K p.1)) cv = some p.2)
/-- a field of caught exceptions of these classes -/
def flB (K : PySem.W.Frag) (f : Str) (cs : List Str) : Bool := cs.all fun c => xfB K (He.ga K c) && decide (PySem.W.findIn K (.ref (He.ga K c)) f = some none)
/-! ### facts of an __init__ that says super().__init__, for the head's run -/
/-- the class, its def's name in full, parameters, body, scope -/
structure SupD where
  cls : Str
  qual : Str
  params : Arguments
  body : List Stmt
  scope : Scope
abbrev FnS : Type := Option (Str × Str × Arguments × FuncBody × Scope × Addr × List Str × Value × Addr)
def supW (K : PySem.W.Frag) (c : Str) : FnS := match K.lookup (He.fAd K (c, some "__init__")) with
  | some ⟨_, _, .func fd, _⟩ => some (fd.name, fd.qualname, fd.params, fd.body, fd.scope, fd.globals, fd.closure.map (·.1), fd.defaults, fd.builtins)
  | _ => none
def SupD.val (d : SupD) : FnS := some ("__init__", d.qual, d.params, .stmts d.body, d.scope, mainGlobals, ["__class__"], .none, builtinsNs)
/-- its cell names the class; its code is the file's -/
def supB (K : PySem.W.Frag) (file : Str) (d : SupD) : Bool := match K.lookup (He.fAd K (d.cls, some "__init__")) with
  | some ⟨_, _, .func fd, _⟩ => PySem.W.codeIn K fd.code d.qual && ((match fd.closure with
    | [(_, cc)] => (match K.lookup cc with
      | some ⟨_, _, .cell (some (.ref D)), _⟩ => decide (D = He.ga K d.cls)
      | _ => false)
    | _ => false) && (match fd.code with
    | .ref cda => (match K.lookup cda with
      | some ⟨_, _, .fields vs, _⟩ => (match (vs[2]? : Option Value) with
        | some (Value.str f _) => decide (file = f)
        | _ => false)
      | _ => false)
    | _ => false))
  | _ => false
def oexB (K : PySem.W.Frag) (C : Addr) : Bool := (match K.lookup C with
  | some ⟨.type "type", _, .cls cd, sl⟩ => (match cd.mro, sl.toList with
    | .ref C' :: bm, [_, _, _, _, some (.builtin n), _] => decide (C' = C) && (decide (n = "ValueError.__new__") && (!cd.hasDel && (cd.hasDict && PySem.HandSPX.refsVE bm)))
    | _, _ => false)
  | _ => false) && (decide (PySem.W.findIn K (.ref C) "__setattr__" = some (some (.builtin "object.__setattr__"))) && (decide (PySem.W.subIn K (.ref C) (.type "BaseException") = some true) && (decide (PySem.W.typeIn K (.ref C) = some (.type "type")) && PySem.W.keepIn K (.ref C))))
def supK (K : PySem.W.Frag) (c : Str) (fs : List Str) : Bool := oexB K (He.ga K c) && (decide (PySem.W.mroIn K (He.ga K c) (.ref (He.ga K c)) = some true) && (decide (PySem.W.ks_superIn K (He.ga K c) (He.ga K c) "__init__" = some (some (.builtin "ValueError.__init__"))) &&
  (decide (PySem.W.subIn K (.ref (He.ga K c)) (.type "ValueError") = some true) && (decide (PySem.W.findIn K (.ref (He.ga K c)) "__init__" = some (some (.ref (He.fAd K (c, some "__init__"))))) && (decide (PySem.W.typeIn K (.ref (He.fAd K (c, some "__init__"))) = some (.type "function")) && fs.all fun f => decide (PySem.W.findIn K (.ref (He.ga K c)) f = some none))))))
/-- the statics say nothing of opaque classes -/
def staB (g : Addr → Option Obj) : Bool := match g cStatics with
  | some o => (match o.cls with
    | .type n => n != "list"
    | _ => true) && decide (PySem.W.nsIn [(cStatics, o)] cStatics "thirdparty.any" = some none)
  | none => false
/-- the head's hook with these -/
def hookY (n : Nat) (fa : List He.Fa) (fn : List He.DefD) (ts : List He.Tab) (ex : PySem.W.Frag → Bool) (sx : List SupD) : PySem.W.Hook where
  α := He.AlX × List FnS × Bool
  obs := fun s => (He.obsX n fa fn ts [] ex s.heap.get?, sx.map fun d => supW (He.frT s.heap.get? (He.asD s.heap.get? n)) d.cls, staB s.heap.get?)
  val := fun w => (He.valX fn ts w, sx.map SupD.val, true)
  says := fun w h => (∃ K : PySem.W.Frag, K.In h ∧ He.SaysX fa fn ts [] ex w h K ∧ (sx.map fun d => supW K d.cls) = sx.map SupD.val) ∧ ∃ o, h.get? cStatics = some o ∧ (match o.cls with
    | .type n => n != "list"
    | _ => true) = true ∧ PySem.W.nsIn [(cStatics, o)] cStatics "thirdparty.any" = some none
  of := fun w s e => ⟨⟨_, He.frT_in, He.saysX_of (congrArg (fun z => z.1) e), congrArg (fun z => z.2.1) e⟩, by
    have z : staB s.heap.get? = true := congrArg (fun z => z.2.2) e
    unfold staB at z
    split at z
    · rename_i o ho
      obtain ⟨z1, z2⟩ := Bool.and_eq_true_iff.mp z
      exact ⟨o, ho, z1, of_decide_eq_true z2⟩
    · cases z⟩
  keeps := fun w h h' ⟨⟨K, hK, c, e⟩, o, ho, z⟩ k => ⟨⟨K, PySem.W.Frag.In.keeps hK k, ⟨c.t, c.more, c.hd, c.out, fun p hp => k _ _ (c.empty p hp)⟩, e⟩, o, k _ _ ho, z⟩
/-- isinstance of instances and for own classes -/
def look3 {α β : Type} [BEq α] [BEq β] (l : List (α × β × Bool)) (a : α) (b : β) : Option Bool := (l.find? fun p => p.1 == a && p.2.1 == b).map (·.2.2)
def iclB (K : PySem.W.Frag) (C : Addr) : Bool := decide (PySem.W.findIn K (.ref C) "__class__" = some (some (.builtin "object.__class__"))) && (decide (PySem.W.specialIn K (.builtin "object.__class__") "__get__" = some (some (.builtin "getset_descriptor.__get__"))) &&
  (decide (PySem.W.takesIn K (.builtin "object.__class__") = some true) && decide (PySem.W.mroIn K C (.type "object") = some true)))
def itB (K : PySem.W.Frag) (lt : List (Str × String × Bool)) (lg : List (Str × Str × Bool)) (lb : List (String × Str × Bool)) : Bool :=
  (lt.all fun p => iclB K (He.ga K p.1) && decide (PySem.W.kitOne K (.ref (He.ga K p.1)) (.type p.2.1) = some p.2.2)) && ((lg.all fun p => iclB K (He.ga K p.1) && decide (PySem.W.kitOne K (.ref (He.ga K p.1)) (.ref (He.ga K p.2.1)) = some p.2.2)) &&
  (lb.all fun p => decide (PySem.W.kitOne K (.type p.1) (.ref (He.ga K p.2.1)) = some p.2.2)))
end Sh

set_option Elab.async false
set_option linter.all false
set_option maxRecDepth 100000
set_option maxHeartbeats 0
/-! the run of the head, with its tables -/
namespace Sh
open PySem PySem.Spec PyProof.Rows L2
def top (i : Nat) : Stmt := PySem.Challenge.pw_triedagain_k61_open_bounds.main.body.getD i (.Pass ⟨0, 0, 0, 0⟩)
abbrev s_NoEnvironment___init__ : Stmt := (inClass (top 8) 0)
abbrev s_NoOpen___init__ : Stmt := (inClass (top 7) 0)
abbrev s_is_row : Stmt := (top 2)
abbrev s_is_name : Stmt := (top 3)
abbrev s_frozen : Stmt := (top 4)
abbrev s_is_whole : Stmt := (top 16)
abbrev s_is_atom : Stmt := (top 17)
abbrev s_is_item : Stmt := (top 18)
abbrev s_items_fault : Stmt := (top 19)
abbrev s_test_fault : Stmt := (top 20)
abbrev s_behind : Stmt := (top 21)
abbrev s_each_fault : Stmt := (top 22)
abbrev s_last_fault : Stmt := (top 23)
abbrev s_part_fault : Stmt := (top 24)
abbrev s_surveyed : Stmt := (top 25)
abbrev s_depth_of : Stmt := (top 26)
abbrev s_within_bounds : Stmt := (top 27)
abbrev s_open_fault : Stmt := (top 28)
abbrev s_is_open : Stmt := (top 29)
abbrev s_opened : Stmt := (top 30)
abbrev s_row_names : Stmt := (top 31)
abbrev s_variables : Stmt := (top 32)
abbrev s_most_names : Stmt := (top 33)
abbrev s_ways : Stmt := (top 34)
abbrev s_are_atoms : Stmt := (top 37)
abbrev s_is_right_row : Stmt := (top 38)
abbrev s_rows_for : Stmt := (top 39)
abbrev s_atom_of : Stmt := (top 40)
abbrev s_passes : Stmt := (top 41)
abbrev s_result_of : Stmt := (top 42)
abbrev s_lead : Stmt := (top 43)
abbrev s_led : Stmt := (top 44)
abbrev s_row_of : Stmt := (top 45)
abbrev s__law_take : Stmt := (top 47)
abbrev s__law_wide : Stmt := (top 48)
abbrev s__law_even : Stmt := (top 49)
abbrev s__law_deep : Stmt := (top 50)
abbrev s__law_named : Stmt := (top 51)
abbrev s__law_rowed : Stmt := (top 52)
abbrev s__law_kept : Stmt := (top 53)
abbrev s__law_refused : Stmt := (top 54)
abbrev s__law_says : Stmt := (top 55)
abbrev s__law_told : Stmt := (top 56)
abbrev s_law : Stmt := (top 57)
abbrev fileD : Str := PySem.Challenge.pw_triedagain_k61_open_bounds.main.file
def sx_NoEnvironment : SupD := ⟨("NoEnvironment" : Str), ("NoEnvironment.__init__" : Str), defArgs s_NoEnvironment___init__, defBody s_NoEnvironment___init__, defScope s_NoEnvironment___init__⟩
def sx_NoOpen : SupD := ⟨("NoOpen" : Str), ("NoOpen.__init__" : Str), defArgs s_NoOpen___init__, defBody s_NoOpen___init__, defScope s_NoOpen___init__⟩
def fnD : List He.DefD := [
  ⟨("is_row", none), "is_row", "is_row", defArgs s_is_row, defBody s_is_row, defScope s_is_row, [], []⟩,
  ⟨("is_name", none), "is_name", "is_name", defArgs s_is_name, defBody s_is_name, defScope s_is_name, [], []⟩,
  ⟨("frozen", none), "frozen", "frozen", defArgs s_frozen, defBody s_frozen, defScope s_frozen, [], []⟩,
  ⟨("is_whole", none), "is_whole", "is_whole", defArgs s_is_whole, defBody s_is_whole, defScope s_is_whole, [], []⟩,
  ⟨("is_atom", none), "is_atom", "is_atom", defArgs s_is_atom, defBody s_is_atom, defScope s_is_atom, [], []⟩,
  ⟨("is_item", none), "is_item", "is_item", defArgs s_is_item, defBody s_is_item, defScope s_is_item, [], []⟩,
  ⟨("items_fault", none), "items_fault", "items_fault", defArgs s_items_fault, defBody s_items_fault, defScope s_items_fault, [], []⟩,
  ⟨("test_fault", none), "test_fault", "test_fault", defArgs s_test_fault, defBody s_test_fault, defScope s_test_fault, [], []⟩,
  ⟨("behind", none), "behind", "behind", defArgs s_behind, defBody s_behind, defScope s_behind, [], []⟩,
  ⟨("each_fault", none), "each_fault", "each_fault", defArgs s_each_fault, defBody s_each_fault, defScope s_each_fault, [], []⟩,
  ⟨("last_fault", none), "last_fault", "last_fault", defArgs s_last_fault, defBody s_last_fault, defScope s_last_fault, [], []⟩,
  ⟨("part_fault", none), "part_fault", "part_fault", defArgs s_part_fault, defBody s_part_fault, defScope s_part_fault, [], []⟩,
  ⟨("surveyed", none), "surveyed", "surveyed", defArgs s_surveyed, defBody s_surveyed, defScope s_surveyed, [], []⟩,
  ⟨("depth_of", none), "depth_of", "depth_of", defArgs s_depth_of, defBody s_depth_of, defScope s_depth_of, [], []⟩,
  ⟨("within_bounds", none), "within_bounds", "within_bounds", defArgs s_within_bounds, defBody s_within_bounds, defScope s_within_bounds, [], []⟩,
  ⟨("open_fault", none), "open_fault", "open_fault", defArgs s_open_fault, defBody s_open_fault, defScope s_open_fault, [], []⟩,
  ⟨("is_open", none), "is_open", "is_open", defArgs s_is_open, defBody s_is_open, defScope s_is_open, [], []⟩,
  ⟨("opened", none), "opened", "opened", defArgs s_opened, defBody s_opened, defScope s_opened, [], []⟩,
  ⟨("row_names", none), "row_names", "row_names", defArgs s_row_names, defBody s_row_names, defScope s_row_names, [], []⟩,
  ⟨("variables", none), "variables", "variables", defArgs s_variables, defBody s_variables, defScope s_variables, [], []⟩,
  ⟨("most_names", none), "most_names", "most_names", defArgs s_most_names, defBody s_most_names, defScope s_most_names, [], []⟩,
  ⟨("ways", none), "ways", "ways", defArgs s_ways, defBody s_ways, defScope s_ways, [], []⟩,
  ⟨("are_atoms", none), "are_atoms", "are_atoms", defArgs s_are_atoms, defBody s_are_atoms, defScope s_are_atoms, [], []⟩,
  ⟨("is_right_row", none), "is_right_row", "is_right_row", defArgs s_is_right_row, defBody s_is_right_row, defScope s_is_right_row, [], []⟩,
  ⟨("rows_for", none), "rows_for", "rows_for", defArgs s_rows_for, defBody s_rows_for, defScope s_rows_for, [], []⟩,
  ⟨("atom_of", none), "atom_of", "atom_of", defArgs s_atom_of, defBody s_atom_of, defScope s_atom_of, [], []⟩,
  ⟨("passes", none), "passes", "passes", defArgs s_passes, defBody s_passes, defScope s_passes, [], []⟩,
  ⟨("result_of", none), "result_of", "result_of", defArgs s_result_of, defBody s_result_of, defScope s_result_of, [], []⟩,
  ⟨("lead", none), "lead", "lead", defArgs s_lead, defBody s_lead, defScope s_lead, [], []⟩,
  ⟨("led", none), "led", "led", defArgs s_led, defBody s_led, defScope s_led, [], []⟩,
  ⟨("row_of", none), "row_of", "row_of", defArgs s_row_of, defBody s_row_of, defScope s_row_of, [], []⟩,
  ⟨("_law_take", none), "_law_take", "_law_take", defArgs s__law_take, defBody s__law_take, defScope s__law_take, [], []⟩,
  ⟨("_law_wide", none), "_law_wide", "_law_wide", defArgs s__law_wide, defBody s__law_wide, defScope s__law_wide, [], []⟩,
  ⟨("_law_even", none), "_law_even", "_law_even", defArgs s__law_even, defBody s__law_even, defScope s__law_even, [], []⟩,
  ⟨("_law_deep", none), "_law_deep", "_law_deep", defArgs s__law_deep, defBody s__law_deep, defScope s__law_deep, [], []⟩,
  ⟨("_law_named", none), "_law_named", "_law_named", defArgs s__law_named, defBody s__law_named, defScope s__law_named, [], []⟩,
  ⟨("_law_rowed", none), "_law_rowed", "_law_rowed", defArgs s__law_rowed, defBody s__law_rowed, defScope s__law_rowed, [], []⟩,
  ⟨("_law_kept", none), "_law_kept", "_law_kept", defArgs s__law_kept, defBody s__law_kept, defScope s__law_kept, [], []⟩,
  ⟨("_law_refused", none), "_law_refused", "_law_refused", defArgs s__law_refused, defBody s__law_refused, defScope s__law_refused, [], []⟩,
  ⟨("_law_says", none), "_law_says", "_law_says", defArgs s__law_says, defBody s__law_says, defScope s__law_says, [], []⟩,
  ⟨("_law_told", none), "_law_told", "_law_told", defArgs s__law_told, defBody s__law_told, defScope s__law_told, [], []⟩,
  ⟨("law", none), "law", "law", defArgs s_law, defBody s_law, defScope s_law, [], []⟩]
def t_LENGTHS : List (Str × He.Dv) := [(("none" : Str), .int 1), (("give" : Str), .int 2), (("each" : Str), .int 4), (("choice" : Str), .int 3), (("when" : Str), .int 3), (("last" : Str), .int 4)]
def t_OPPOSITES : List (Str × He.Dv) := [(("alike" : Str), .str ("unlike" : Str)), (("unlike" : Str), .str ("alike" : Str))]
def t_WORDS : List He.Dv := (.str ("nothing" : Str) :: .str ("first" : Str) :: .str ("no" : Str) :: .str ("if" : Str) :: .str ("most" : Str) :: .str ("again" : Str) :: .str ("to" : Str) :: .str ("items" : Str) :: .str ("every" : Str) :: .str ("while" : Str) :: .str ("do" : Str) :: .str ("call" : Str) :: .str ("back" : Str) :: .str ("out" : Str) :: .str ("fall" : Str) :: .str ("keep" : Str) :: .str ("ask" : Str) :: .str ("anew" : Str) :: .str ("scan" : Str) :: .str ("move" : Str) :: .str ("tab" : Str) :: .str ("find" : Str) :: .str ("reach" : Str) :: .str ("many" : Str) :: .str ("match" : Str) :: .str ("here" : Str) :: .str ("put" : Str) :: .str ("take" : Str) :: .str ("size" : Str) :: .str ("at" : Str) :: .str ("place" : Str) :: .str ("say" : Str) :: .str ("is" : Str) :: .str ("isnt" : Str) :: .str ("list" : Str) :: .str ("mod" : Str) :: [])
def t_fcs_spot : List Str := [("NoOpen" : Str)]
def exL : List (Str × Str × Bool) := [(("NoEnvironment" : Str), ("NoEnvironment" : Str), true), (("NoEnvironment" : Str), ("NoOpen" : Str), false), (("NoOpen" : Str), ("NoEnvironment" : Str), false), (("NoOpen" : Str), ("NoOpen" : Str), true)]
def faD : List He.Fa := [.glo "is_row", .glo "is_name", .glo "frozen", .glo "is_whole", .glo "is_atom", .glo "is_item", .glo "items_fault", .glo "test_fault", .glo "behind", .glo "each_fault", .glo "last_fault", .glo "part_fault", .glo "surveyed", .glo "depth_of", .glo "within_bounds", .glo "open_fault", .glo "is_open", .glo "opened", .glo "row_names", .glo "variables", .glo "most_names", .glo "ways", .glo "are_atoms", .glo "is_right_row", .glo "rows_for", .glo "atom_of", .glo "passes", .glo "result_of", .glo "lead", .glo "led", .glo "row_of", .glo "_law_take", .glo "_law_wide", .glo "_law_even", .glo "_law_deep", .glo "_law_named", .glo "_law_rowed", .glo "_law_kept", .glo "_law_refused", .glo "_law_says", .glo "_law_told", .glo "law", .free "bool", .free "dict", .free "int", .free "isinstance", .free "len", .free "list", .free "max", .free "min", .free "ord", .free "range", .free "set", .free "sorted", .free "str", .free "tuple", .glo "LENGTHS", .int "MOST_ATOMS" (16), .int "MOST_DEEP" (12), .int "MOST_ITEMS" (3), .int "MOST_NAMES" (3), .int "MOST_PARTS" (40), .glo "OPPOSITES", .glo "WORDS", .free "super", .glo "NoEnvironment", .glo "NoOpen", .exm "NoEnvironment" "NoEnvironment" true, .exm "NoEnvironment" "NoOpen" false, .exm "NoOpen" "NoEnvironment" false, .exm "NoOpen" "NoOpen" true]
def ks_LENGTHS : List Str := ["none", "give", "each", "choice", "when", "last"]
def ks_OPPOSITES : List Str := ["alike", "unlike"]
def tsD : List He.Tab := [(fun K => He.ga K "LENGTHS", ks_LENGTHS), (fun K => He.ga K "OPPOSITES", ks_OPPOSITES)]
def exD (K : PySem.W.Frag) : Bool := true && He.valsB K (He.ga K "LENGTHS") t_LENGTHS && He.valsB K (He.ga K "OPPOSITES") t_OPPOSITES && He.tupB K "WORDS" t_WORDS && flB K ("spot" : Str) t_fcs_spot && supB K fileD sx_NoEnvironment && supK K ("NoEnvironment" : Str) [("name" : Str)] && supB K fileD sx_NoOpen && supK K ("NoOpen" : Str) [("spot" : Str)]
def names0 : List Str := ("WORDS" :: "is_row" :: "is_name" :: "frozen" :: "TriedError" :: "NoOpen" :: "NoEnvironment" :: "MOST_PARTS" :: "MOST_DEEP" :: "MOST_NAMES" :: "MOST_ITEMS" :: "LENGTHS" :: "OPPOSITES" :: "is_whole" :: "is_atom" :: "is_item" :: "items_fault" :: "test_fault" :: "behind" :: "each_fault" :: "last_fault" :: "part_fault" :: "surveyed" :: "depth_of" :: "within_bounds" :: "open_fault" :: "is_open" :: "opened" :: "row_names" :: "variables" :: [])
def names1 : List Str := ("most_names" :: "ways" :: "MOST_ATOMS" :: "are_atoms" :: "is_right_row" :: "rows_for" :: "atom_of" :: "passes" :: "result_of" :: "lead" :: "led" :: "row_of" :: "_law_take" :: "_law_wide" :: "_law_even" :: "_law_deep" :: "_law_named" :: "_law_rowed" :: "_law_kept" :: "_law_refused" :: "_law_says" :: "_law_told" :: [])
def names : List Str := names0 ++ names1
def sxD : List SupD := [sx_NoEnvironment, sx_NoOpen]
abbrev RowR : PySem.W.OpenRow := PySem.W.OpenLaw.row PySem.Challenge.rw_triedagain_k61_open_bounds
abbrev hk0 : PySem.W.Hook := hookY 6 faD fnD tsD exD sxD
def ob0 (s : PySem.W.SharedT) : He.AlX × List FnS × Bool := (He.obsX 6 faD fnD tsD [] exD (HandSHeadRun.getT s), sxD.map fun d => supW (He.frT (HandSHeadRun.getT s) (He.asD (HandSHeadRun.getT s) 6)) d.cls, staB (HandSHeadRun.getT s))
theorem ob0_eq (s : PySem.W.SharedT) : ob0 s = hk0.obs s.abs := by
  have h : HandSHeadRun.getT s = s.abs.heap.get? := funext (HandSHeadRun.getT_eq s)
  unfold ob0
  rw [h]; rfl
abbrev hk : PySem.W.Hook := hookS hk0
def ob (s : PySem.W.SharedT) : (He.AlX × List FnS × Bool) × Bool := (ob0 s, sysB (HandSHeadRun.getT s))
theorem ob_eq (s : PySem.W.SharedT) : ob s = hk.obs s.abs := obS_eq (H0 := hk0) (ob := ob0) ob0_eq s
abbrev RunP (w : World) : Prop := HandSHeadRun.RunEq RowR (PySem.W.view RowR.prog [57]) hk ob 30000 names w
theorem runF (w : World) : RunP (w.withFollow "special-get-raises" false) := by intro os; kernel_rfl
theorem runT (w : World) : RunP (w.withFollow "special-get-raises" true) := by intro os; kernel_rfl
theorem run (w : World) : HandSHeadRun.RunEq RowR (PySem.W.view RowR.prog [57]) hk ob 30000 names w :=
  PySem.W.byRow2 "special-get-raises" (P := RunP) runF runT w
end Sh
set_option Elab.async false
set_option linter.all false
/-! ShM: the plain model: values, store, results, combinators (core Lean and the library's Str, Key). -/
namespace Sh
open PySem L2

/-- a value: tuples, and lists and dicts that are never written again, by value; scr: the script; siz: a set of so many members; other lists, dicts and objects by reference to the store -/
inductive W where
  | non | bl (b : Bool) | int (i : Int) | str (x : Str) | tup (xs : List W) | ref (a : Nat) | ty (n : String) | glo (x : Str) | lst (xs : List W) | dic (ks : List Key) (ws : List W) | scr (ns : List Int) | siz (n : Nat)
instance : Inhabited W := ⟨.non⟩

/-- an object of the store: a list; a dict; an instance -/
inductive Ob where
  | lst (xs : List W) | dic (kvs : List (Key × W)) | ins (c : Str) (fs : List (Str × W))
abbrev Store := List Ob
structure Exn where
  cls : Str
  fs : List (Str × W)

/-- what comes out: a value and the store, an exception, or nothing that the model knows -/
inductive R (α : Type) where
  | ok (a : α) (S : Store) | exc (x : Exn) (S : Store) | bad
def R.bind {α β : Type} (r : R α) (k : α → Store → R β) : R β := match r with
  | .ok a S => k a S
  | .exc x S => .exc x S
  | .bad => .bad
@[simp] theorem R.bind_ok {α β : Type} (a : α) (S : Store) (k : α → Store → R β) : (R.ok a S).bind k = k a S := rfl
@[simp] theorem R.bind_exc {α β : Type} (x : Exn) (S : Store) (k : α → Store → R β) : (R.exc x S : R α).bind k = .exc x S := rfl
@[simp] theorem R.bind_bad {α β : Type} (k : α → Store → R β) : (R.bad : R α).bind k = .bad := rfl

/-- a frame's names by slot -/
abbrev En := List (Option W)
abbrev EM := En → Store → R W
abbrev TM := En → Store → R Bool
abbrev AM := En → Store → R (List W)
/-- a primitive: none is what the model does not know (or refuses) -/
abbrev P1 := W → Store → Option (W × Store)
abbrev P2 := W → W → Store → Option (W × Store)
abbrev PN := List W → Store → Option (W × Store)
def lift (o : Option (W × Store)) : R W := match o with
  | some (w, S) => .ok w S
  | none => .bad
@[simp] theorem lift_some (w : W) (S : Store) : lift (some (w, S)) = .ok w S := rfl
@[simp] theorem lift_none : lift none = .bad := rfl

/-! ### expressions -/
def eVar (i : Nat) : EM := fun e S => match e[i]? with
  | some (some w) => .ok w S
  | _ => .bad
def eC (w : W) : EM := fun _ S => .ok w S
def e1 (f : P1) (a : EM) : EM := fun e S => (a e S).bind fun x S1 => lift (f x S1)
def e2 (f : P2) (a b : EM) : EM := fun e S => (a e S).bind fun x S1 => (b e S1).bind fun y S2 => lift (f x y S2)
def evs : List EM → AM
  | [], _, S => .ok [] S
  | a :: as, e, S => (a e S).bind fun x S1 => (evs as e S1).bind fun xs S2 => .ok (x :: xs) S2
def eN (f : PN) (as : List EM) : EM := fun e S => (evs as e S).bind fun xs S1 => lift (f xs S1)
/-- a call of the text's own -/
def eCall (C : List W → Store → R W) (as : List EM) : EM := fun e S => (evs as e S).bind fun xs S1 => C xs S1
def eIf (c : TM) (a b : EM) : EM := fun e S => (c e S).bind fun k S1 => if k = true then a e S1 else b e S1

/-! ### truth -/
def truW (w : W) (S : Store) : Option Bool := match w with
  | .non => some false
  | .bl b => some b
  | .int i => some (i != 0)
  | .str x => if x.length ≤ sizeLine then some ((x.length : Int) != 0) else none
  | .tup xs => some (!xs.isEmpty)
  | .lst xs => some (!xs.isEmpty)
  | .dic ks _ => some (!ks.isEmpty)
  | .scr ns => some (!ns.isEmpty)
  | .ref a => match S[a]? with
    | some (.lst xs) => some (!xs.isEmpty)
    | some (.dic kvs) => some (!kvs.isEmpty)
    | _ => none
  | _ => none
def liftB (o : Option Bool) (S : Store) : R Bool := match o with
  | some b => .ok b S
  | none => .bad
@[simp] theorem liftB_some (b : Bool) (S : Store) : liftB (some b) S = .ok b S := rfl
@[simp] theorem liftB_none (S : Store) : liftB none S = .bad := rfl
/-- by a value's truth -/
def tE (a : EM) : TM := fun e S => (a e S).bind fun w S1 => liftB (truW w S1) S1
def bolW : W → Option Bool
  | .bl b => some b
  | _ => none
/-- by a bool (comparisons) -/
def tB (a : EM) : TM := fun e S => (a e S).bind fun w S1 => liftB (bolW w) S1
def tNot (t : TM) : TM := fun e S => (t e S).bind fun b S1 => .ok (!b) S1
def tAnd (t u : TM) : TM := fun e S => (t e S).bind fun b S1 => if b = true then u e S1 else .ok false S1
def tOr (t u : TM) : TM := fun e S => (t e S).bind fun b S1 => if b = true then .ok true S1 else u e S1
/-- and, or, not as values -/
def eAnd (a b : EM) : EM := fun e S => (a e S).bind fun x S1 => (liftB (truW x S1) S1).bind fun k S1 => if k = true then b e S1 else .ok x S1
def eOr (a b : EM) : EM := fun e S => (a e S).bind fun x S1 => (liftB (truW x S1) S1).bind fun k S1 => if k = true then .ok x S1 else b e S1
def eNot (a : EM) : EM := fun e S => (a e S).bind fun x S1 => (liftB (truW x S1) S1).bind fun k S1 => .ok (.bl (!k)) S1

/-! ### statements -/
inductive RS where
  | nx (e : En) (S : Store) | ret (w : W) (S : Store) | brk (e : En) (S : Store) | cnt (e : En) (S : Store) | exc (x : Exn) (e : En) (S : Store) | bad
abbrev SM := En → Store → RS
/-- behind an expression -/
def R.thn {α : Type} (r : R α) (e : En) (k : α → Store → RS) : RS := match r with
  | .ok a S => k a S
  | .exc x S => .exc x e S
  | .bad => .bad
@[simp] theorem R.thn_ok {α : Type} (a : α) (S : Store) (e : En) (k : α → Store → RS) : (R.ok a S).thn e k = k a S := rfl
@[simp] theorem R.thn_exc {α : Type} (x : Exn) (S : Store) (e : En) (k : α → Store → RS) : (R.exc x S : R α).thn e k = .exc x e S := rfl
@[simp] theorem R.thn_bad {α : Type} (e : En) (k : α → Store → RS) : (R.bad : R α).thn e k = .bad := rfl
/-- behind a statement -/
def RS.seq (r : RS) (k : SM) : RS := match r with
  | .nx e S => k e S
  | r => r
@[simp] theorem RS.seq_nx (e : En) (S : Store) (k : SM) : (RS.nx e S).seq k = k e S := rfl
@[simp] theorem RS.seq_ret (w : W) (S : Store) (k : SM) : (RS.ret w S).seq k = .ret w S := rfl
@[simp] theorem RS.seq_brk (e : En) (S : Store) (k : SM) : (RS.brk e S).seq k = .brk e S := rfl
@[simp] theorem RS.seq_cnt (e : En) (S : Store) (k : SM) : (RS.cnt e S).seq k = .cnt e S := rfl
@[simp] theorem RS.seq_exc (x : Exn) (e : En) (S : Store) (k : SM) : (RS.exc x e S).seq k = .exc x e S := rfl
@[simp] theorem RS.seq_bad (k : SM) : RS.bad.seq k = .bad := rfl
def sNil : SM := fun e S => .nx e S
def sSeq (a b : SM) : SM := fun e S => (a e S).seq b
def sIf (c : TM) (a b : SM) : SM := fun e S => (c e S).thn e fun k S1 => if k = true then a e S1 else b e S1
def sRet (a : EM) : SM := fun e S => (a e S).thn e fun w S1 => .ret w S1
def sRetN : SM := fun _ S => .ret .non S
def sExpr (a : EM) : SM := fun e S => (a e S).thn e fun _ S1 => .nx e S1
def sBrk : SM := fun e S => .brk e S
def sCnt : SM := fun e S => .cnt e S
/-- what the model does not know -/
def sBad : SM := fun _ _ => .bad
/-- a target: the value goes to the frame, the store -/
abbrev GM := W → En → Store → Option (En × Store)
def gVar (i : Nat) : GM := fun w e S => some (e.set i (some w), S)
def RSof (o : Option (En × Store)) : RS := match o with
  | some (e, S) => .nx e S
  | none => .bad
@[simp] theorem RSof_some (e : En) (S : Store) : RSof (some (e, S)) = .nx e S := rfl
@[simp] theorem RSof_none : RSof none = .bad := rfl
def sSet (i : Nat) (a : EM) : SM := fun e S => (a e S).thn e fun w S1 => .nx (e.set i (some w)) S1
def sAsg (g : GM) (a : EM) : SM := fun e S => (a e S).thn e fun w S1 => RSof (g w e S1)
/-- the names at these slots take a row's items in order -/
def setVars : List Nat → List W → En → En
  | i :: is, w :: ws, e => setVars is ws (e.set i (some w))
  | _, _, e => e
/-- (a, b, ..) = a tuple | a list of that length -/
def gVars (is : List Nat) : GM := fun w e S => match w with
  | .tup ws => if ws.length = is.length then some (setVars is ws e, S) else none
  | _ => none
/-- a, b = x, y -/
def sPar (i j : Nat) (a b : EM) : SM := fun e S => (a e S).thn e fun x S1 => (b e S1).thn e fun y S2 => .nx ((e.set i (some x)).set j (some y)) S2
def sAug (i : Nat) (f : P2) (a : EM) : SM := fun e S => match e[i]? with
  | some (some x) => (a e S).thn e fun y S1 => (lift (f x y S1)).thn e fun z S2 => .nx (e.set i (some z)) S2
  | _ => .bad
/-- o[i] = e: e first -/
abbrev P3 := W → W → W → Store → Option Store
def sSetIx (f : P3) (o i a : EM) : SM := fun e S => (a e S).thn e fun v S1 => (o e S1).thn e fun x S2 => (i e S2).thn e fun y S3 => match f x y v S3 with
  | some S4 => .nx e S4
  | none => .bad

/-! ### loops -/
/-- what is walked: at a turn, none: unknown; some none: the end; some (some w): w -/
abbrev ItM := Nat → Store → Option (Option W)
def itL (a : Nat) : ItM := fun i S => match S[a]? with
  | some (.lst xs) => some xs[i]?
  | _ => none
def itT (ws : List W) : ItM := fun i _ => some ws[i]?
def itR (lo : Int) (n : Nat) : ItM := fun i _ => some (if i < n then some (.int (lo + i)) else none)
/-- how a loop begins: the iterator over a value -/
abbrev IM := En → Store → R ItM
def chrW (c : Nat) : W := .str ⟨#[c]⟩
def iterW (w : W) (S : Store) : Option ItM := match w with
  | .tup ws => some (itT ws)
  | .str x => some (itT (x.cps.toList.map chrW))
  | .lst ws => some (itT ws)
  | .scr ns => some (itT (ns.map W.int))
  | .ref a => match S[a]? with
    | some (.lst _) => some (itL a)
    | _ => none
  | _ => none
def iE (a : EM) : IM := fun e S => (a e S).bind fun w S1 => match iterW w S1 with
  | some J => .ok J S1
  | none => .bad
/-- (a stuck term: the kernel peels a literal unarily in Int's order) -/
theorem big_ex : ∃ i : Int, i = 4611686018427387904 := ⟨_, rfl⟩
noncomputable def big : Int := big_ex.choose
theorem big_def : big = 4611686018427387904 := big_ex.choose_spec
noncomputable def rngJ (m n : Int) (S : Store) : R ItM := if -big ≤ m ∧ m < big ∧ -big ≤ n ∧ n < big then .ok (itR m (n - m).toNat) S else .bad
noncomputable def iRange1 (a : EM) : IM := fun e S => (a e S).bind fun w S1 => match w with
  | .int n => rngJ 0 n S1
  | _ => .bad
noncomputable def iRange2 (a b : EM) : IM := fun e S => (a e S).bind fun w S1 => (b e S1).bind fun v S2 => match w, v with
  | .int m, .int n => rngJ m n S2
  | _, _ => .bad
def forN (J : ItM) (g : GM) (b : SM) : Nat → Nat → SM
  | 0, _, _, _ => .bad
  | n + 1, i, e, S => match J i S with
    | none => .bad
    | some none => .nx e S
    | some (some w) => match g w e S with
      | none => .bad
      | some (e1, S1) => match b e1 S1 with
        | .nx e2 S2 => forN J g b n (i + 1) e2 S2
        | .cnt e2 S2 => forN J g b n (i + 1) e2 S2
        | .brk e2 S2 => .nx e2 S2
        | r => r
/-- more turns than any loop has -/
theorem fuel_ex : ∃ n : Nat, 33554432 ≤ n := ⟨_, Nat.le_refl _⟩
/-- (a stuck term: the kernel shall not count it) -/
noncomputable def fuel : Nat := fuel_ex.choose
theorem fuel_ge : 33554432 ≤ fuel := fuel_ex.choose_spec
noncomputable def sFor (it : IM) (g : GM) (b : SM) : SM := fun e S => (it e S).thn e fun J S1 => forN J g b fuel 0 e S1
def whileN (c : TM) (b : SM) : Nat → SM
  | 0, _, _ => .bad
  | n + 1, e, S => match c e S with
    | .bad => .bad
    | .exc x S1 => .exc x e S1
    | .ok k S1 => if k = true then match b e S1 with
        | .nx e2 S2 => whileN c b n e2 S2
        | .cnt e2 S2 => whileN c b n e2 S2
        | .brk e2 S2 => .nx e2 S2
        | r => r
      else .nx e S1
noncomputable def sWhile (c : TM) (b : SM) : SM := whileN c b fuel
/-- a list comprehension of one clause; own: the slots of its own names -/
def wipeE (e : En) : List Nat → En
  | [] => e
  | v :: vs => (wipeE e vs).set v none
def lcN (J : ItM) (g : GM) (t : TM) (a : EM) (e0 : En) : Nat → Nat → List W → Store → R (List W)
  | 0, _, _, _ => .bad
  | n + 1, i, acc, S => match J i S with
    | none => .bad
    | some none => .ok acc S
    | some (some w) => match g w e0 S with
      | none => .bad
      | some (e1, S1) => (t e1 S1).bind fun k S2 => if k = true then (a e1 S2).bind fun x S3 => if acc.length < sizeLine then lcN J g t a e0 n (i + 1) (acc ++ [x]) S3 else .bad
        else lcN J g t a e0 n (i + 1) acc S2
def tYesM : TM := fun _ S => .ok true S
/-- an exception never leaves a comprehension in this model -/
def R.noexc {α : Type} (r : R α) : R α := match r with
  | .exc _ _ => .bad
  | r => r
/-- a new list: the store's own (m), or a value -/
def mkL (m : Bool) (xs : List W) (S : Store) : W × Store := if m = true then (.ref S.length, S ++ [.lst xs]) else (.lst xs, S)
@[simp] theorem mkL_t (xs : List W) (S : Store) : mkL true xs S = (.ref S.length, S ++ [.lst xs]) := rfl
@[simp] theorem mkL_f (xs : List W) (S : Store) : mkL false xs S = (.lst xs, S) := rfl
noncomputable def eLc (m : Bool) (it : IM) (own : List Nat) (g : GM) (t : TM) (a : EM) : EM := fun e S => (it e S).bind fun J S1 =>
  (lcN J g t a (wipeE e own) fuel 0 [] S1).noexc.bind fun xs S2 => .ok (mkL m xs S2).1 (mkL m xs S2).2

/-! ### a def -/
/-- the frame at the entry: n slots, the arguments first -/
def startE (n : Nat) (ws : List W) : En := ws.map some ++ List.replicate (n - ws.length) none
mutual
/-- no reference at or above n -/
def lowW (n : Nat) : W → Bool
  | .ref a => decide (a < n)
  | .tup ws => lowWs n ws
  | .lst ws => lowWs n ws
  | .dic _ ws => lowWs n ws
  | .non => true
  | .bl _ => true
  | .int _ => true
  | .str _ => true
  | .ty _ => true
  | .glo _ => true
  | .scr _ => true
  | .siz _ => true
def lowWs (n : Nat) : List W → Bool
  | [] => true
  | w :: ws => lowW n w && lowWs n ws
end
mutual
def mapR (f : Nat → Option W) : W → Option W
  | .ref a => f a
  | .tup ws => (mapRs f ws).map .tup
  | .lst ws => (mapRs f ws).map .lst
  | .dic ks ws => (mapRs f ws).map (.dic ks)
  | .non => some .non
  | .bl b => some (.bl b)
  | .int i => some (.int i)
  | .str x => some (.str x)
  | .ty n => some (.ty n)
  | .glo x => some (.glo x)
  | .scr ns => some (.scr ns)
  | .siz n => some (.siz n)
def mapRs (f : Nat → Option W) : List W → Option (List W)
  | [] => some []
  | w :: ws => match mapR f w, mapRs f ws with
    | some a, some b => some (a :: b)
    | _, _ => none
end
def fzL (f : W → Option W) : List W → Option (List W)
  | [] => some []
  | w :: ws => match f w, fzL f ws with
    | some a, some b => some (a :: b)
    | _, _ => none
/-- the lists and dicts that were made since become values -/
def fzD (n : Nat) (S : Store) : Nat → W → Option W
  | 0, w => if lowW n w = true then some w else none
  | d + 1, w => mapR (fun a => if a < n then some (.ref a) else match S[a]? with
    | some (.lst ws) => (fzL (fzD n S d) ws).map .lst
    | some (.dic kvs) => (fzL (fzD n S d) (kvs.map (·.2))).map (.dic (kvs.map (·.1)))
    | _ => none) w
def lowO (n : Nat) : Ob → Bool
  | .lst ws => lowWs n ws
  | .dic kvs => lowWs n (kvs.map (·.2))
  | .ins _ fs => lowWs n (fs.map (·.2))
/-- what stood at the entry names nothing that is newer -/
def okS (n : Nat) (S : Store) : Bool := (S.take n).all (lowO n)
/-- a def's end: its result is frozen, the store is cut back -/
def cutR (S : Store) (w : W) (S1 : Store) : R W := match fzD S.length S1 4 w with
  | some w' => if okS S.length S1 = true then .ok w' (S1.take S.length) else .bad
  | none => .bad
def cutX (S : Store) (x : Exn) (S1 : Store) : R W := if (lowWs S.length (x.fs.map (·.2)) && okS S.length S1) = true then .exc x (S1.take S.length) else .bad
def runDef (ps n : Nat) (b : SM) (ws : List W) (S : Store) : R W := if ws.length = ps then match b (startE n ws) S with
    | .nx _ S1 => cutR S .non S1
    | .ret w S1 => cutR S w S1
    | .exc x _ S1 => cutX S x S1
    | _ => .bad
  else .bad
/-- .. without -/
def runDefO (ps n : Nat) (b : SM) (ws : List W) (S : Store) : R W := if ws.length = ps then match b (startE n ws) S with
    | .nx _ S1 => .ok .non S1
    | .ret w S1 => .ok w S1
    | .exc x _ S1 => .exc x S1
    | _ => .bad
  else .bad
end Sh

set_option Elab.async false
set_option linter.all false
set_option maxRecDepth 100000
set_option maxHeartbeats 2000000
/-! ShR: the relation between the model and HandS's abstract heap; readings by the model; the rules' frame. -/
namespace Sh
open PySem PySem.Spec PyProof.Rows L2

/-- a set of n members -/
def SzAt (h : Heap) (a : Addr) (n : Nat) : Prop := ∃ o es ep t, h.get? a = some o ∧ o.ExactSet ∧ o.data = .set es ep t ∧ t.fits es.size = true ∧ es.size < scanBound ∧ es.size = n
def SzO (a : Addr) (n : Nat) : HO := .ext fun h => SzAt h a n
/-- the store's addresses in order; addresses that a comprehension holds -/
structure Fi where
  t : List Addr
  h : List Addr
section
variable (K : PySem.W.Frag) (mg : Str → Option Value)
/-- a list that is known and never written -/
def SqF (H : Hp) (a : Addr) (xs : List V) : Prop := (∃ o, H a = some (.frz o (.lst xs))) ∨
    ∃ (o : Obj) (its : Array Value) (n : Nat), K.lookup a = some o ∧ o.cls = .type "list" ∧ o.dict = none ∧ o.data = .seq its n ∧ its.size ≤ sizeLine ∧ Vals xs its.toList
/-- a tuple: laid in the run, or the module's own -/
def SqU (H : Hp) (a : Addr) (xs : List V) : Prop := H a = some (.tup xs) ∨
    ∃ (o : Obj) (its : Array Value) (n : Nat), K.lookup a = some o ∧ o.cls = .type "tuple" ∧ o.data = .seq its n ∧ its.size ≤ sizeLine ∧ Vals xs its.toList
/-- beside the store -/
def Out (φ : Fi) (p : Addr) : Prop := p ∉ φ.t ∧ p ∉ φ.h
/-- a list that is never written again -/
def SqW (H : Hp) (φ : Fi) (p : Addr) (xs : List V) : Prop := Out φ p ∧ H p = some (.lst xs)
mutual
def VR (H : Hp) (φ : Fi) : W → V → Prop
  | .non, v => v = .non
  | .bl b, v => v = .bl b
  | .int i, v => v = .int i
  | .str x, v => v = .str x
  | .tup ws, v => ∃ p vs, v = .ref p ∧ SqU K H p vs ∧ VRs H φ ws vs
  | .ref a, v => ∃ p, v = .ref p ∧ φ.t[a]? = some p
  | .ty n, v => v = .ty n
  | .glo x, v => ∃ a, mg x = some (.ref a) ∧ v = .ref a
  | .lst ws, v => ∃ p vs, v = .ref p ∧ SqW H φ p vs ∧ VRs H φ ws vs
  | .dic ks ws, v => ∃ p us, v = .ref p ∧ Out φ p ∧ H p = some (.dK us) ∧ us.map (·.1) = ks ∧ VRs H φ ws (us.map (·.2))
  | .scr ns, v => ∃ p, v = .ref p ∧ SqF K H p (ns.map V.int)
  | .siz n, v => ∃ p, v = .ref p ∧ Out φ p ∧ H p = some (SzO p n)
def VRs (H : Hp) (φ : Fi) : List W → List V → Prop
  | [], vs => vs = []
  | w :: ws, vs => ∃ v r, vs = v :: r ∧ VR H φ w v ∧ VRs H φ ws r
end
/-- dict entries, fields: the same names in the same order, related values -/
def KVR {κ : Type} (H : Hp) (φ : Fi) (kvs : List (κ × W)) (us : List (κ × V)) : Prop :=
  kvs.map (·.1) = us.map (·.1) ∧ VRs K mg H φ (kvs.map (·.2)) (us.map (·.2))
def OR (H : Hp) (φ : Fi) : Ob → Addr → Prop
  | .lst ws, p => ∃ vs, H p = some (.lst vs) ∧ VRs K mg H φ ws vs
  | .dic kvs, p => ∃ us, H p = some (.dK us) ∧ KVR K mg H φ kvs us
  | .ins c fs, p => ∃ C dx us, mg c = some (.ref C) ∧ H p = some (.ins C dx us) ∧ KVR K mg H φ fs us
/-- the store is the heap's tracked part that the model knows -/
structure SR (H : Hp) (φ : Fi) (S : Store) : Prop where
  len : φ.t.length = S.length
  nd : φ.t.Nodup
  at_ : ∀ (a : Nat) ob p, S[a]? = some ob → φ.t[a]? = some p → OR K mg H φ ob p
  hd : ∀ D ∈ φ.h, D ∉ φ.t ∧ ∃ o, H D = some o
end

/-- what every step keeps -/
structure Ext (H H' : Hp) (φ φ' : Fi) : Prop where
  pre : ∃ l, φ'.t = φ.t ++ l
  hid : φ'.h = φ.h
  fr : ∀ p o, H p = some o → p ∉ φ.t → H' p = some o
  new : ∀ p, p ∈ φ'.t → p ∉ φ.t → H p = none
  tup : ∀ p xs, H p = some (.tup xs) → H' p = some (.tup xs)
  frz : ∀ p o u, H p = some (.frz o u) → H' p = some (.frz o u)

section
variable {K : PySem.W.Frag} {mg : Str → Option Value} {H H' H'' : Hp} {φ φ' φ'' : Fi} {S S' : Store}
theorem Ext.refl : Ext H H φ φ := ⟨⟨[], by simp⟩, rfl, fun _ _ h _ => h, fun _ h n => absurd h n, fun _ _ h => h, fun _ _ _ h => h⟩
theorem Ext.trans (a : Ext H H' φ φ') (b : Ext H' H'' φ' φ'') : Ext H H'' φ φ'' := by
  obtain ⟨l, e⟩ := a.pre
  obtain ⟨l', e'⟩ := b.pre
  refine ⟨⟨l ++ l', by rw [e', e, List.append_assoc]⟩, b.hid.trans a.hid, fun p o h n => ?_, fun p h n => ?_, fun p xs h => b.tup p xs (a.tup p xs h), fun p o u h => b.frz p o u (a.frz p o u h)⟩
  · refine b.fr p o (a.fr p o h n) fun z => ?_
    have := a.new p z n
    rw [h] at this; cases this
  · by_cases hp : p ∈ φ'.t
    · exact a.new p hp n
    · have z := b.new p h hp
      cases q : H p with
      | none => rfl
      | some o => rw [a.fr p o q n] at z; cases z
theorem Ext.get (x : Ext H H' φ φ') {a : Nat} {p : Addr} (h : φ.t[a]? = some p) : φ'.t[a]? = some p := by
  obtain ⟨l, e⟩ := x.pre
  rw [e, List.getElem?_append_left (List.getElem?_eq_some_iff.mp h).1]
  exact h
theorem Ext.out (x : Ext H H' φ φ') {p : Addr} {o : HO} (h : Out φ p) (e : H p = some o) : H' p = some o ∧ Out φ' p := by
  refine ⟨x.fr p o e h.1, fun z => ?_, by rw [x.hid]; exact h.2⟩
  have := x.new p z h.1
  rw [e] at this; cases this
/-- what values need to be kept -/
structure Mon (H H' : Hp) (φ φ' : Fi) : Prop where
  pre : ∃ l, φ'.t = φ.t ++ l
  out : ∀ p o, H p = some o → Out φ p → H' p = some o ∧ Out φ' p
  tup : ∀ p xs, H p = some (.tup xs) → H' p = some (.tup xs)
  frz : ∀ p o u, H p = some (.frz o u) → H' p = some (.frz o u)
theorem Ext.mon (x : Ext H H' φ φ') : Mon H H' φ φ' := ⟨x.pre, fun p o h n => x.out n h, x.tup, x.frz⟩
theorem Mon.get (x : Mon H H' φ φ') {a : Nat} {p : Addr} (h : φ.t[a]? = some p) : φ'.t[a]? = some p := by
  obtain ⟨l, e⟩ := x.pre
  rw [e, List.getElem?_append_left (List.getElem?_eq_some_iff.mp h).1]
  exact h
theorem Mon.rdT (x : Mon H H' φ φ') {p : Addr} {vs : List V} (h : SqU K H p vs) : SqU K H' p vs := by
  rcases h with h | h
  · exact .inl (x.tup _ _ h)
  · exact .inr h
theorem Mon.rdF (x : Mon H H' φ φ') {p : Addr} {vs : List V} (h : SqF K H p vs) : SqF K H' p vs := by
  rcases h with ⟨o, h⟩ | h
  · exact .inl ⟨o, x.frz _ _ _ h⟩
  · exact .inr h
theorem Mon.rdW (x : Mon H H' φ φ') {p : Addr} {vs : List V} (h : SqW H φ p vs) : SqW H' φ' p vs := by
  obtain ⟨n, h⟩ := h
  obtain ⟨a, b⟩ := x.out p _ h n
  exact ⟨b, a⟩
theorem Ext.rdT (x : Ext H H' φ φ') {p : Addr} {vs : List V} (h : SqU K H p vs) : SqU K H' p vs := x.mon.rdT h
theorem Ext.rdW (x : Ext H H' φ φ') {p : Addr} {vs : List V} (h : SqW H φ p vs) : SqW H' φ' p vs := x.mon.rdW h
theorem SqU.sq {p : Addr} {vs : List V} (h : SqU K H p vs) : SqT K H p vs := by
  rcases h with h | h
  · exact .inl (.inl h)
  · exact .inr h
theorem Ext.rdF (x : Ext H H' φ φ') {p : Addr} {vs : List V} (h : SqF K H p vs) : SqF K H' p vs := x.mon.rdF h
theorem SqF.sq {p : Addr} {vs : List V} (h : SqF K H p vs) : SqL K H p vs := by
  rcases h with ⟨o, h⟩ | h
  · exact .inl (.inr ⟨o, h⟩)
  · exact .inr h
theorem SqW.sq {p : Addr} {vs : List V} (h : SqW H φ p vs) : SqL K H p vs := .inl (.inl h.2)
mutual
theorem VR.monoM (x : Mon H H' φ φ') : ∀ {w : W} {v : V}, VR K mg H φ w v → VR K mg H' φ' w v
  | .non, v, h => h
  | .bl b, v, h => h
  | .int i, v, h => h
  | .str s, v, h => h
  | .tup ws, v, h => by
    simp only [VR] at h ⊢
    obtain ⟨p, vs, e, q, r⟩ := h
    exact ⟨p, vs, e, x.rdT q, VRs.monoM x r⟩
  | .ref a, v, h => by
    simp only [VR] at h ⊢
    obtain ⟨p, e, q⟩ := h
    exact ⟨p, e, x.get q⟩
  | .ty n, v, h => h
  | .glo y, v, h => h
  | .lst ws, v, h => by
    simp only [VR] at h ⊢
    obtain ⟨p, vs, e, q, r⟩ := h
    exact ⟨p, vs, e, x.rdW q, VRs.monoM x r⟩
  | .dic ks ws, v, h => by
    simp only [VR] at h ⊢
    obtain ⟨p, us, e, n, q, k, r⟩ := h
    obtain ⟨a, b⟩ := x.out p _ q n
    exact ⟨p, us, e, b, a, k, VRs.monoM x r⟩
  | .scr ns, v, h => by
    simp only [VR] at h ⊢
    obtain ⟨p, e, q⟩ := h
    exact ⟨p, e, x.rdF q⟩
  | .siz n, v, h => by
    simp only [VR] at h ⊢
    obtain ⟨p, e, n, q⟩ := h
    obtain ⟨a, b⟩ := x.out p _ q n
    exact ⟨p, e, b, a⟩
theorem VRs.monoM (x : Mon H H' φ φ') : ∀ {ws : List W} {vs : List V}, VRs K mg H φ ws vs → VRs K mg H' φ' ws vs
  | [], vs, h => h
  | w :: ws, vs, h => by
    simp only [VRs] at h ⊢
    obtain ⟨v, r, e, a, b⟩ := h
    exact ⟨v, r, e, VR.monoM x a, VRs.monoM x b⟩
end
theorem VR.mono (x : Ext H H' φ φ') {w : W} {v : V} (h : VR K mg H φ w v) : VR K mg H' φ' w v := h.monoM x.mon
theorem VRs.mono (x : Ext H H' φ φ') {ws : List W} {vs : List V} (h : VRs K mg H φ ws vs) : VRs K mg H' φ' ws vs := h.monoM x.mon
theorem KVR.mono {κ : Type} (x : Ext H H' φ φ') {kvs : List (κ × W)} {us : List (κ × V)} (h : KVR K mg H φ kvs us) : KVR K mg H' φ' kvs us := ⟨h.1, h.2.mono x⟩
theorem KVR.monoM {κ : Type} (x : Mon H H' φ φ') {kvs : List (κ × W)} {us : List (κ × V)} (h : KVR K mg H φ kvs us) : KVR K mg H' φ' kvs us := ⟨h.1, h.2.monoM x⟩
theorem VRs.length : ∀ {ws : List W} {vs : List V}, VRs K mg H φ ws vs → ws.length = vs.length
  | [], vs, h => by simp only [VRs] at h; rw [h]; rfl
  | w :: ws, vs, h => by
    simp only [VRs] at h
    obtain ⟨v, r, rfl, _, b⟩ := h
    simp only [List.length_cons, b.length]
theorem VRs.get : ∀ {ws : List W} {vs : List V} {i : Nat} {w : W}, VRs K mg H φ ws vs → ws[i]? = some w → ∃ v, vs[i]? = some v ∧ VR K mg H φ w v
  | [], vs, i, w, h, e => by simp at e
  | w :: ws, vs, 0, w', h, e => by
    simp only [VRs] at h
    obtain ⟨v, r, rfl, a, _⟩ := h
    simp at e; subst e
    exact ⟨v, rfl, a⟩
  | w :: ws, vs, i + 1, w', h, e => by
    simp only [VRs] at h
    obtain ⟨v, r, rfl, _, b⟩ := h
    simpa using b.get (i := i) (by simpa using e)
theorem VRs.none : ∀ {ws : List W} {vs : List V} {i : Nat}, VRs K mg H φ ws vs → ws[i]? = none → vs[i]? = none := fun {ws vs i} h e => by
  have := h.length
  have := List.getElem?_eq_none_iff.mp e
  exact List.getElem?_eq_none_iff.mpr (by omega)
theorem VRs.append : ∀ {ws ws' : List W} {vs vs' : List V}, VRs K mg H φ ws vs → VRs K mg H φ ws' vs' → VRs K mg H φ (ws ++ ws') (vs ++ vs')
  | [], ws', vs, vs', h, h' => by simp only [VRs] at h; subst h; exact h'
  | w :: ws, ws', vs, vs', h, h' => by
    simp only [VRs] at h
    obtain ⟨v, r, rfl, a, b⟩ := h
    show VRs K mg H φ (w :: (ws ++ ws')) (v :: (r ++ vs'))
    simp only [VRs]
    exact ⟨v, _, rfl, a, b.append h'⟩
theorem VRs.take : ∀ {ws : List W} {vs : List V} (n : Nat), VRs K mg H φ ws vs → VRs K mg H φ (ws.take n) (vs.take n)
  | ws, vs, 0, _ => by simp [VRs]
  | [], vs, n + 1, h => by simp only [VRs] at h; subst h; simp [VRs]
  | w :: ws, vs, n + 1, h => by
    simp only [VRs] at h
    obtain ⟨v, r, rfl, a, b⟩ := h
    show VRs K mg H φ (w :: ws.take n) (v :: r.take n)
    simp only [VRs]
    exact ⟨v, _, rfl, a, b.take n⟩
theorem VRs.drop : ∀ {ws : List W} {vs : List V} (n : Nat), VRs K mg H φ ws vs → VRs K mg H φ (ws.drop n) (vs.drop n)
  | ws, vs, 0, h => h
  | [], vs, n + 1, h => by simp only [VRs] at h; subst h; simp [VRs]
  | w :: ws, vs, n + 1, h => by
    simp only [VRs] at h
    obtain ⟨v, r, rfl, a, b⟩ := h
    exact b.drop n
theorem VRs.set {w : W} {v : V} (hv : VR K mg H φ w v) : ∀ {ws : List W} {vs : List V} (i : Nat), VRs K mg H φ ws vs → VRs K mg H φ (ws.set i w) (vs.set i v)
  | [], vs, i, h => by simp only [VRs] at h; subst h; simp [VRs]
  | w' :: ws, vs, 0, h => by
    simp only [VRs] at h
    obtain ⟨v', r, rfl, a, b⟩ := h
    show VRs K mg H φ (w :: ws) (v :: r)
    simp only [VRs]
    exact ⟨v, _, rfl, hv, b⟩
  | w' :: ws, vs, i + 1, h => by
    simp only [VRs] at h
    obtain ⟨v', r, rfl, a, b⟩ := h
    show VRs K mg H φ (w' :: ws.set i w) (v' :: r.set i v)
    simp only [VRs]
    exact ⟨v', _, rfl, a, b.set hv i⟩
theorem VRs.nil : VRs K mg H φ [] [] := by simp [VRs]
theorem VRs.cons {w : W} {ws : List W} {v : V} {vs : List V} (a : VR K mg H φ w v) (b : VRs K mg H φ ws vs) : VRs K mg H φ (w :: ws) (v :: vs) := by
  simp only [VRs]; exact ⟨v, vs, rfl, a, b⟩
theorem VRs.one {w : W} {v : V} (a : VR K mg H φ w v) : VRs K mg H φ [w] [v] := .cons a .nil
theorem VRs.ints : ∀ ns : List Int, VRs K mg H φ (ns.map W.int) (ns.map V.int)
  | [] => .nil
  | n :: ns => .cons (by simp [VR]) (VRs.ints ns)
theorem VRs.strs : ∀ ns : List Str, VRs K mg H φ (ns.map W.str) (ns.map V.str)
  | [] => .nil
  | n :: ns => .cons (by simp [VR]) (VRs.strs ns)

/-! ### the store under a step -/
theorem SR.lt (r : SR K mg H φ S) {a : Nat} {ob : Ob} (h : S[a]? = some ob) : ∃ p, φ.t[a]? = some p ∧ OR K mg H φ ob p := by
  have hl := (List.getElem?_eq_some_iff.mp h).1
  have e : φ.t[a]? = some (φ.t[a]'(by rw [r.len]; exact hl)) := List.getElem?_eq_getElem _
  exact ⟨_, e, r.at_ a ob _ h e⟩
theorem SR.ob (r : SR K mg H φ S) {a : Nat} {p : Addr} (h : φ.t[a]? = some p) : ∃ ob, S[a]? = some ob ∧ OR K mg H φ ob p := by
  have hl := (List.getElem?_eq_some_iff.mp h).1
  have e : S[a]? = some (S[a]'(by rw [← r.len]; exact hl)) := List.getElem?_eq_getElem _
  exact ⟨_, e, r.at_ a _ p e h⟩
/-- what may stand at an address of the store -/
def stO : HO → Bool
  | .lst _ => true
  | .dK _ => true
  | .ins _ _ _ => true
  | .ext _ => true
  | _ => false
theorem OR.ho {ob : Ob} {p : Addr} (h : OR K mg H φ ob p) : ∃ o, H p = some o ∧ stO o = true := by
  cases ob with
  | lst ws => obtain ⟨vs, e, _⟩ := h; exact ⟨_, e, rfl⟩
  | dic kvs => obtain ⟨us, e, _⟩ := h; exact ⟨_, e, rfl⟩
  | ins c fs => obtain ⟨C, dx, us, _, e, _⟩ := h; exact ⟨_, e, rfl⟩
theorem SR.ho (r : SR K mg H φ S) {p : Addr} (h : p ∈ φ.t) : ∃ o, H p = some o ∧ stO o = true := by
  obtain ⟨a, ha, e⟩ := List.mem_iff_getElem.mp h
  obtain ⟨ob, _, q⟩ := r.ob (a := a) (p := p) (by rw [← e]; exact List.getElem?_eq_getElem _)
  exact q.ho
theorem SR.notin (r : SR K mg H φ S) {p : Addr} (h : H p = none) : Out φ p := by
  refine ⟨fun hp => ?_, fun hp => ?_⟩
  · obtain ⟨o, e, _⟩ := r.ho hp
    rw [h] at e; cases e
  · obtain ⟨_, o, e⟩ := r.hd p hp
    rw [h] at e; cases e
theorem OR.monoM (x : Mon H H' φ φ') {ob : Ob} {p : Addr} (h : OR K mg H φ ob p) (e : H' p = H p) : OR K mg H' φ' ob p := by
  cases ob with
  | lst ws => obtain ⟨vs, q, r⟩ := h; exact ⟨vs, e.trans q, r.monoM x⟩
  | dic kvs => obtain ⟨us, q, r⟩ := h; exact ⟨us, e.trans q, r.monoM x⟩
  | ins c fs => obtain ⟨C, dx, us, m, q, r⟩ := h; exact ⟨C, dx, us, m, e.trans q, r.monoM x⟩
theorem OR.mono (x : Ext H H' φ φ') {ob : Ob} {p : Addr} (h : OR K mg H φ ob p) (e : H' p = H p) : OR K mg H' φ' ob p := h.monoM x.mon e
/-- what is hidden stays there -/
theorem SR.hidden (r : SR K mg H φ S) {H' : Hp} {φ' : Fi} (x : Ext H H' φ φ') : ∀ D ∈ φ'.h, D ∉ φ'.t ∧ ∃ o, H' D = some o := fun D hD => by
  rw [x.hid] at hD
  obtain ⟨n, o, e⟩ := r.hd D hD
  refine ⟨fun z => ?_, o, x.fr D o e n⟩
  have := x.new D z n
  rw [e] at this; cases this
/-- an address is hidden -/
def Fi.hide (φ : Fi) (D : Addr) : Fi := ⟨φ.t, D :: φ.h⟩
/-- a new object that a comprehension holds -/
theorem SR.hideNew (r : SR K mg H φ S) {D : Addr} {o : HO} (hD : H D = none) : Mon H (upd H D o) φ (φ.hide D) ∧ SR K mg (upd H D o) (φ.hide D) S := by
  have nD := r.notin hD
  have x : Mon H (upd H D o) φ (φ.hide D) := ⟨⟨[], by simp [Fi.hide]⟩, fun p u h n => by
      have hne : p ≠ D := ne_of_none h hD
      exact ⟨by rw [upd_ne hne]; exact h, n.1, fun z => by
        rcases List.mem_cons.mp z with e | e
        · exact hne e
        · exact n.2 e⟩,
    fun p xs h => by rw [upd_ne (ne_of_none h hD)]; exact h, fun p u v h => by rw [upd_ne (ne_of_none h hD)]; exact h⟩
  refine ⟨x, r.len, r.nd, fun a ob p h e => ?_, fun E hE => ?_⟩
  · refine (r.at_ a ob p h e).monoM x (upd_ne fun z => ?_)
    subst z
    exact nD.1 (List.mem_of_getElem? e)
  · rcases List.mem_cons.mp hE with e | e
    · subst e; exact ⟨nD.1, o, upd_same⟩
    · obtain ⟨n, u, q⟩ := r.hd E e
      exact ⟨n, u, by rw [upd_ne (ne_of_none q hD)]; exact q⟩
/-- what is hidden is changed -/
theorem SR.hideSet (r : SR K mg H (φ.hide D) S) {o o' : HO} (hD : H D = some o) (ho : stO o = true) : Mon H (upd H D o') (φ.hide D) (φ.hide D) ∧ SR K mg (upd H D o') (φ.hide D) S := by
  obtain ⟨nD, _⟩ := r.hd D List.mem_cons_self
  have x : Mon H (upd H D o') (φ.hide D) (φ.hide D) := ⟨⟨[], by simp⟩, fun p u h n => by
      have hne : p ≠ D := fun z => n.2 (by rw [z]; exact List.mem_cons_self)
      exact ⟨by rw [upd_ne hne]; exact h, n⟩,
    fun p xs h => by rw [upd_ne (fun z => by rw [z, hD] at h; cases h; cases ho)]; exact h, fun p u v h => by rw [upd_ne (fun z => by rw [z, hD] at h; cases h; cases ho)]; exact h⟩
  refine ⟨x, r.len, r.nd, fun a ob p h e => ?_, fun E hE => ?_⟩
  · refine (r.at_ a ob p h e).monoM x (upd_ne fun z => ?_)
    subst z
    exact nD (List.mem_of_getElem? e)
  · obtain ⟨n, u, q⟩ := r.hd E hE
    by_cases e : E = D
    · subst e; exact ⟨n, o', upd_same⟩
    · exact ⟨n, u, by rw [upd_ne e]; exact q⟩
/-- what was hidden is beside the store -/
theorem SR.show_ (r : SR K mg H (φ.hide D) S) : Mon H H (φ.hide D) φ ∧ SR K mg H φ S := by
  have x : Mon H H (φ.hide D) φ := ⟨⟨[], by simp [Fi.hide]⟩, fun p u h n => ⟨h, n.1, fun z => n.2 (List.mem_cons_of_mem _ z)⟩, fun _ _ h => h, fun _ _ _ h => h⟩
  exact ⟨x, r.len, r.nd, fun a ob p h e => (r.at_ a ob p h e).monoM x rfl, fun E hE => r.hd E (List.mem_cons_of_mem _ hE)⟩
/-- an object beside the store becomes the store's own; no value names it -/
theorem SR.adopt (r : SR K mg H (φ.hide D) S) {ob : Ob} (h : OR K mg H ⟨φ.t ++ [D], φ.h⟩ ob D) (nh : D ∉ φ.h) : Mon H H (φ.hide D) ⟨φ.t ++ [D], φ.h⟩ ∧ SR K mg H ⟨φ.t ++ [D], φ.h⟩ (S ++ [ob]) ∧ (φ.t ++ [D])[S.length]? = some D := by
  obtain ⟨nD, oD, eD⟩ := r.hd D List.mem_cons_self
  have nD : D ∉ φ.t := nD
  have rl : φ.t.length = S.length := r.len
  have x : Mon H H (φ.hide D) ⟨φ.t ++ [D], φ.h⟩ := ⟨⟨[D], rfl⟩, fun p u h n => ⟨h, fun z => by
      rcases List.mem_append.mp z with z | z
      · exact n.1 z
      · exact n.2 (by rw [List.mem_singleton.mp z]; exact List.mem_cons_self), fun z => n.2 (List.mem_cons_of_mem _ z)⟩, fun _ _ h => h, fun _ _ _ h => h⟩
  have last : (φ.t ++ [D])[S.length]? = some D := by rw [← rl]; simp
  refine ⟨x, ⟨by simp [rl], ?_, fun a ob' p h' e => ?_, fun E hE => ?_⟩, last⟩
  · exact List.nodup_append.mpr ⟨r.nd, by simp, fun a ha b hb => by
      have : b = D := by simpa using hb
      subst this
      exact fun z => nD (z ▸ ha)⟩
  · by_cases ha : a < S.length
    · rw [List.getElem?_append_left ha] at h'
      have e' : φ.t[a]? = some p := by
        have e2 : (φ.t ++ [D])[a]? = some p := e
        rw [List.getElem?_append_left (by rw [rl]; exact ha)] at e2
        exact e2
      exact (r.at_ a ob' p h' e').monoM x rfl
    · have hlt := (List.getElem?_eq_some_iff.mp h').1
      simp at hlt
      have ea : a = S.length := by omega
      subst ea
      have e2 : (φ.t ++ [D])[S.length]? = some p := e
      rw [last] at e2; cases e2
      simp at h'
      subst h'
      exact h
  · obtain ⟨n, u, q⟩ := r.hd E (List.mem_cons_of_mem _ hE)
    refine ⟨fun z => ?_, u, q⟩
    rcases List.mem_append.mp z with z | z
    · exact n z
    · rw [List.mem_singleton.mp z] at hE; exact nh hE
/-- an object that the model does not track is laid at a new place -/
theorem SR.extra (r : SR K mg H φ S) {q : Addr} {o : HO} (hq : H q = none) : Ext H (upd H q o) φ φ ∧ SR K mg (upd H q o) φ S := by
  have nq := r.notin hq
  have x : Ext H (upd H q o) φ φ := ⟨⟨[], by simp⟩, rfl, fun p u h _ => by rw [upd_ne (ne_of_none h hq)]; exact h, fun _ h n => absurd h n,
    fun p xs h => by rw [upd_ne (ne_of_none h hq)]; exact h, fun p u v h => by rw [upd_ne (ne_of_none h hq)]; exact h⟩
  refine ⟨x, r.len, r.nd, fun a ob p h e => (r.at_ a ob p h e).mono x ?_, r.hidden x⟩
  have : p ≠ q := fun z => nq.1 (z ▸ List.mem_of_getElem? e)
  exact upd_ne this
/-- a new object of the store at a new place -/
theorem SR.push (r : SR K mg H φ S) {q : Addr} {o : HO} {ob : Ob} (hq : H q = none) (h : ∀ H' φ', Ext H H' φ φ' → H' q = some o → OR K mg H' φ' ob q) :
    Ext H (upd H q o) φ ⟨φ.t ++ [q], φ.h⟩ ∧ SR K mg (upd H q o) ⟨φ.t ++ [q], φ.h⟩ (S ++ [ob]) ∧ (φ.t ++ [q])[S.length]? = some q := by
  have nq := r.notin hq
  have x : Ext H (upd H q o) φ ⟨φ.t ++ [q], φ.h⟩ := ⟨⟨[q], rfl⟩, rfl, fun p u h _ => by rw [upd_ne (ne_of_none h hq)]; exact h, fun p h n => by
      rcases List.mem_append.mp (show p ∈ φ.t ++ [q] from h) with z | z
      · exact absurd z n
      · have : p = q := by simpa using z
        rw [this]; exact hq,
    fun p xs h => by rw [upd_ne (ne_of_none h hq)]; exact h, fun p u v h => by rw [upd_ne (ne_of_none h hq)]; exact h⟩
  have last : (φ.t ++ [q])[S.length]? = some q := by rw [← r.len]; simp
  refine ⟨x, ⟨by simp [r.len], ?_, fun a ob' p h' e => ?_, r.hidden x⟩, last⟩
  · exact List.nodup_append.mpr ⟨r.nd, by simp, fun a ha b hb => by
      have : b = q := by simpa using hb
      subst this
      exact fun z => nq.1 (z ▸ ha)⟩
  · by_cases ha : a < S.length
    · rw [List.getElem?_append_left ha] at h'
      have e' : φ.t[a]? = some p := by
        have e2 : (φ.t ++ [q])[a]? = some p := e
        rw [List.getElem?_append_left (by rw [r.len]; exact ha)] at e2
        exact e2
      refine (r.at_ a ob' p h' e').mono x ?_
      exact upd_ne fun z => nq.1 (z ▸ List.mem_of_getElem? e')
    · have hlt := (List.getElem?_eq_some_iff.mp h').1
      simp at hlt
      have ea : a = S.length := by omega
      subst ea
      have e2 : (φ.t ++ [q])[S.length]? = some p := e
      rw [last] at e2; cases e2
      simp at h'
      subst h'
      exact h _ _ x upd_same
/-- an object of the store is changed -/
theorem SR.write (r : SR K mg H φ S) {a : Nat} {p : Addr} {o : HO} {ob : Ob} (ha : φ.t[a]? = some p) (h : ∀ H' φ', Ext H H' φ φ' → H' p = some o → OR K mg H' φ' ob p) :
    Ext H (upd H p o) φ φ ∧ SR K mg (upd H p o) φ (S.set a ob) := by
  have hp : p ∈ φ.t := List.mem_of_getElem? ha
  obtain ⟨o0, e0, s0⟩ := r.ho hp
  have x : Ext H (upd H p o) φ φ := ⟨⟨[], by simp⟩, rfl, fun q u h n => by rw [upd_ne (fun z => n (by rw [z]; exact hp))]; exact h, fun _ h n => absurd h n,
    fun q xs h => by rw [upd_ne (fun z => by rw [z, e0] at h; cases h; cases s0)]; exact h, fun q u v h => by rw [upd_ne (fun z => by rw [z, e0] at h; cases h; cases s0)]; exact h⟩
  refine ⟨x, by rw [List.length_set]; exact r.len, r.nd, fun b ob' q h' e => ?_, r.hidden x⟩
  by_cases hb : b = a
  · subst hb
    have hl := (List.getElem?_eq_some_iff.mp ha).1
    rw [List.getElem?_set_self (by rw [← r.len]; exact hl)] at h'
    cases h'
    rw [ha] at e; cases e
    exact h _ _ x upd_same
  · rw [List.getElem?_set_ne (Ne.symm hb)] at h'
    refine (r.at_ b ob' q h' e).mono x (upd_ne fun z => ?_)
    subst z
    exact hb ((List.getElem?_inj (List.getElem?_eq_some_iff.mp e).1 r.nd).mp (e.trans ha.symm))
/-! ### the store is cut back -/
/-- the entry's part -/
def Fi.cut (φ : Fi) (n : Nat) : Fi := ⟨φ.t.take n, φ.h⟩
theorem Out.cut {p : Addr} {n : Nat} (h : Out φ p) : Out (φ.cut n) p := ⟨fun z => h.1 (List.mem_of_mem_take z), h.2⟩
theorem SqW.cut {p : Addr} {n : Nat} {vs : List V} (h : SqW H φ p vs) : SqW H (φ.cut n) p vs := ⟨h.1.cut, h.2⟩
theorem get_cut {a n : Nat} {p : Addr} (h : φ.t[a]? = some p) (ha : a < n) : (φ.cut n).t[a]? = some p := by
  show (φ.t.take n)[a]? = some p
  rw [List.getElem?_take, if_pos ha]; exact h
mutual
theorem VR.low {n : Nat} : ∀ {w : W} {v : V}, VR K mg H φ w v → lowW n w = true → VR K mg H (φ.cut n) w v
  | .non, v, h, _ => h
  | .bl b, v, h, _ => h
  | .int i, v, h, _ => h
  | .str s, v, h, _ => h
  | .tup ws, v, h, l => by
    simp only [VR] at h ⊢
    obtain ⟨p, vs, e, q, r⟩ := h
    exact ⟨p, vs, e, q, VRs.low r (by simpa only [lowW] using l)⟩
  | .ref a, v, h, l => by
    simp only [VR] at h ⊢
    obtain ⟨p, e, q⟩ := h
    exact ⟨p, e, get_cut q (by simpa only [lowW, decide_eq_true_eq] using l)⟩
  | .ty n, v, h, _ => h
  | .glo y, v, h, _ => h
  | .lst ws, v, h, l => by
    simp only [VR] at h ⊢
    obtain ⟨p, vs, e, q, r⟩ := h
    exact ⟨p, vs, e, q.cut, VRs.low r (by simpa only [lowW] using l)⟩
  | .dic ks ws, v, h, l => by
    simp only [VR] at h ⊢
    obtain ⟨p, us, e, n, q, k, r⟩ := h
    exact ⟨p, us, e, n.cut, q, k, VRs.low r (by simpa only [lowW] using l)⟩
  | .scr ns, v, h, _ => h
  | .siz n, v, h, l => by
    simp only [VR] at h ⊢
    obtain ⟨p, e, o, q⟩ := h
    exact ⟨p, e, o.cut, q⟩
theorem VRs.low {n : Nat} : ∀ {ws : List W} {vs : List V}, VRs K mg H φ ws vs → lowWs n ws = true → VRs K mg H (φ.cut n) ws vs
  | [], vs, h, _ => h
  | w :: ws, vs, h, l => by
    simp only [VRs] at h ⊢
    simp only [lowWs, Bool.and_eq_true] at l
    obtain ⟨v, r, e, a, b⟩ := h
    exact ⟨v, r, e, VR.low a l.1, VRs.low b l.2⟩
end
mutual
theorem VR.mapR {n : Nat} {f : Nat → Option W} (hf : ∀ a w' v, f a = some w' → VR K mg H φ (.ref a) v → VR K mg H (φ.cut n) w' v) : ∀ {w w' : W} {v : V}, mapR f w = some w' → VR K mg H φ w v → VR K mg H (φ.cut n) w' v
  | .non, w', v, e, h => by simp only [Sh.mapR] at e; cases e; exact h
  | .bl b, w', v, e, h => by simp only [Sh.mapR] at e; cases e; exact h
  | .int i, w', v, e, h => by simp only [Sh.mapR] at e; cases e; exact h
  | .str s, w', v, e, h => by simp only [Sh.mapR] at e; cases e; exact h
  | .ty n, w', v, e, h => by simp only [Sh.mapR] at e; cases e; exact h
  | .glo y, w', v, e, h => by simp only [Sh.mapR] at e; cases e; exact h
  | .ref a, w', v, e, h => by simp only [Sh.mapR] at e; exact hf a w' v e h
  | .tup ws, w', v, e, h => by
    simp only [Sh.mapR, Option.map_eq_some_iff] at e
    obtain ⟨ws', e1, rfl⟩ := e
    simp only [VR] at h ⊢
    obtain ⟨p, vs, e, q, r⟩ := h
    exact ⟨p, vs, e, q, VRs.mapRs hf e1 r⟩
  | .lst ws, w', v, e, h => by
    simp only [Sh.mapR, Option.map_eq_some_iff] at e
    obtain ⟨ws', e1, rfl⟩ := e
    simp only [VR] at h ⊢
    obtain ⟨p, vs, e, q, r⟩ := h
    exact ⟨p, vs, e, q.cut, VRs.mapRs hf e1 r⟩
  | .dic ks ws, w', v, e, h => by
    simp only [Sh.mapR, Option.map_eq_some_iff] at e
    obtain ⟨ws', e1, rfl⟩ := e
    simp only [VR] at h ⊢
    obtain ⟨p, us, e, n, q, k, r⟩ := h
    exact ⟨p, us, e, n.cut, q, k, VRs.mapRs hf e1 r⟩
  | .scr ns, w', v, e, h => by simp only [Sh.mapR] at e; cases e; exact h
  | .siz n, w', v, e, h => by
    simp only [Sh.mapR] at e
    cases e
    simp only [VR] at h ⊢
    obtain ⟨p, e, o, q⟩ := h
    exact ⟨p, e, o.cut, q⟩
theorem VRs.mapRs {n : Nat} {f : Nat → Option W} (hf : ∀ a w' v, f a = some w' → VR K mg H φ (.ref a) v → VR K mg H (φ.cut n) w' v) : ∀ {ws ws' : List W} {vs : List V}, mapRs f ws = some ws' → VRs K mg H φ ws vs → VRs K mg H (φ.cut n) ws' vs
  | [], ws', vs, e, h => by simp only [Sh.mapRs] at e; cases e; simp only [VRs] at h ⊢; exact h
  | w :: ws, ws', vs, e, h => by
    simp only [Sh.mapRs] at e
    cases e1 : Sh.mapR f w with
    | none => rw [e1] at e; cases e
    | some a =>
      cases e2 : Sh.mapRs f ws with
      | none => rw [e1, e2] at e; cases e
      | some b =>
        rw [e1, e2] at e
        cases e
        simp only [VRs] at h ⊢
        obtain ⟨v, r, e, h1, h2⟩ := h
        exact ⟨v, r, e, VR.mapR hf e1 h1, VRs.mapRs hf e2 h2⟩
end
theorem fzL_ok {n : Nat} {f : W → Option W} (hf : ∀ w w' v, f w = some w' → VR K mg H φ w v → VR K mg H (φ.cut n) w' v) : ∀ {ws ws' : List W} {vs : List V}, fzL f ws = some ws' → VRs K mg H φ ws vs → VRs K mg H (φ.cut n) ws' vs
  | [], ws', vs, e, h => by simp only [fzL] at e; cases e; simp only [VRs] at h ⊢; exact h
  | w :: ws, ws', vs, e, h => by
    simp only [fzL] at e
    cases e1 : f w with
    | none => rw [e1] at e; cases e
    | some a =>
      cases e2 : fzL f ws with
      | none => rw [e1, e2] at e; cases e
      | some b =>
        rw [e1, e2] at e
        cases e
        simp only [VRs] at h ⊢
        obtain ⟨v, r, e, h1, h2⟩ := h
        exact ⟨v, r, e, hf _ _ _ e1 h1, fzL_ok hf e2 h2⟩
theorem SR.outTail (s : SR K mg H φ S) {a n : Nat} {p : Addr} (h : φ.t[a]? = some p) (ha : ¬ a < n) : Out (φ.cut n) p := by
  refine ⟨fun z => ?_, fun z => ?_⟩
  · obtain ⟨i, hi, e⟩ := List.mem_iff_getElem.mp z
    have hi' : i < n := by
      have := hi
      simp [Fi.cut] at this
      omega
    have e2 : φ.t[i]? = some p := by
      have e3 : (φ.t.take n)[i]? = some p := by rw [← e]; exact List.getElem?_eq_getElem _
      rw [List.getElem?_take, if_pos hi'] at e3
      exact e3
    have := (List.getElem?_inj (List.getElem?_eq_some_iff.mp e2).1 s.nd).mp (e2.trans h.symm)
    omega
  · exact (s.hd p z).1 (List.mem_of_getElem? h)
theorem fzD_ok (s : SR K mg H φ S) {n : Nat} : ∀ (d : Nat) (w w' : W) (v : V), fzD n S d w = some w' → VR K mg H φ w v → VR K mg H (φ.cut n) w' v
  | 0, w, w', v, e, h => by
    simp only [fzD] at e
    split at e
    · rename_i hl
      cases e
      exact h.low hl
    · cases e
  | d + 1, w, w', v, e, h => by
    simp only [fzD] at e
    refine VR.mapR (n := n) (fun a u v' e1 h1 => ?_) e h
    simp only [VR] at h1
    obtain ⟨p, rfl, q⟩ := h1
    split at e1
    · rename_i ha
      cases e1
      simp only [VR]
      exact ⟨p, rfl, get_cut q ha⟩
    · rename_i ha
      have o := s.outTail q ha
      split at e1
      · rename_i ws e0
        simp only [Option.map_eq_some_iff] at e1
        obtain ⟨ws', e2, rfl⟩ := e1
        obtain ⟨vs, hp, r⟩ := s.at_ a _ p e0 q
        simp only [VR]
        exact ⟨p, vs, rfl, ⟨o, hp⟩, fzL_ok (fun w w' v e h => fzD_ok s d w w' v e h) e2 r⟩
      · rename_i kvs e0
        simp only [Option.map_eq_some_iff] at e1
        obtain ⟨ws', e2, rfl⟩ := e1
        obtain ⟨us, hp, r⟩ := s.at_ a _ p e0 q
        simp only [VR]
        exact ⟨p, us, rfl, o, hp, r.1.symm, fzL_ok (fun w w' v e h => fzD_ok s d w w' v e h) e2 r.2⟩
      · cases e1
theorem SR.cut (s : SR K mg H φ S) {n : Nat} (h : okS n S = true) : SR K mg H (φ.cut n) (S.take n) := by
  refine ⟨by simp [Fi.cut, s.len], s.nd.sublist (List.take_sublist _ _), fun a ob p e1 e2 => ?_, fun D hD => ⟨fun z => (s.hd D hD).1 (List.mem_of_mem_take z), (s.hd D hD).2⟩⟩
  have hl : lowO n ob = true := List.all_eq_true.mp h ob (List.mem_of_getElem? e1)
  rw [List.getElem?_take] at e1
  split at e1
  · rename_i ha
    have e2' : φ.t[a]? = some p := by
      have e3 : (φ.t.take n)[a]? = some p := e2
      rw [List.getElem?_take, if_pos ha] at e3
      exact e3
    have o := s.at_ a ob p e1 e2'
    cases ob with
    | lst ws => obtain ⟨vs, q, r⟩ := o; exact ⟨vs, q, r.low hl⟩
    | dic kvs => obtain ⟨us, q, r⟩ := o; exact ⟨us, q, r.1, r.2.low hl⟩
    | ins c fs => obtain ⟨C, dx, us, m, q, r⟩ := o; exact ⟨C, dx, us, m, q, r.1, r.2.low hl⟩
  · cases e1
/-- since the entry -/
theorem Ext.cut {S0 : Store} (x : Ext H H' φ φ') (s0 : SR K mg H φ S0) : Ext H H' φ φ ∧ φ'.cut S0.length = φ := by
  obtain ⟨l, e⟩ := x.pre
  refine ⟨⟨⟨[], by simp⟩, rfl, x.fr, fun p h n => absurd h n, x.tup, x.frz⟩, ?_⟩
  obtain ⟨t, h⟩ := φ
  obtain ⟨t', h'⟩ := φ'
  have hh : h' = h := x.hid
  have ht : t' = t ++ l := e
  subst hh ht
  show (⟨(t ++ l).take S0.length, h'⟩ : Fi) = ⟨t, h'⟩
  have hl : t.length = S0.length := s0.len
  rw [← hl, List.take_left]
/-- what stands beside the store stays there -/
theorem Ext.beside (x : Ext H H' φ φ') {q : Addr} {o : HO} (h : H q = some o) (n : q ∉ φ.t) : H' q = some o ∧ q ∉ φ'.t := by
  refine ⟨x.fr q o h n, fun z => ?_⟩
  have := x.new q z n
  rw [h] at this; cases this
end
end Sh

set_option Elab.async false
set_option linter.all false
set_option maxRecDepth 100000
set_option maxHeartbeats 2000000
/-! ShE: the readings by the model; the rules of expressions, tests, statements. -/
namespace Sh
open PySem PySem.Spec PyProof.Rows L2

section
variable (K : PySem.W.Frag) (mg : Str → Option Value)
structure ER (H : Hp) (φ : Fi) (e : En) (σ : L2.St) : Prop where
  len : e.length = σ.length
  at_ : ∀ (i : Nat) w, e[i]? = some (some w) → ∃ v, σ[i]? = some (some v) ∧ VR K mg H φ w v
def XR (H : Hp) (φ : Fi) (x : Exn) (cls : Value) (d : Option Addr) : Prop :=
  ∃ C, mg x.cls = some (.ref C) ∧ cls = .ref C ∧ ((x.fs = [] ∧ d = none) ∨ ∃ dd us, x.fs ≠ [] ∧ d = some dd ∧ H dd = some (.xd us) ∧ KVR K mg H φ x.fs us)
/-- what a result says -/
def PostR {α β : Type} (Wx : WX) (Rel : Hp → Fi → α → β → Prop) (σ : L2.St) (H : Hp) (φ : Fi) (Q : β → Hp → Prop) : R α → Prop
  | .ok a S' => ∀ b H' φ', Ext H H' φ φ' → SR K mg H' φ' S' → Rel H' φ' a b → Q b H'
  | .exc x S' => ∀ cls d H' φ', Ext H H' φ φ' → SR K mg H' φ' S' → XR K mg H' φ' x cls d → Wx cls d σ H'
  | .bad => False
def PostS (Wx : WX) (D : Ends) (H : Hp) (φ : Fi) : RS → Prop
  | .nx e S' => ∀ σ' H' φ', Ext H H' φ φ' → ER K mg H' φ' e σ' → SR K mg H' φ' S' → D.nx σ' H'
  | .ret w S' => ∀ v H' φ', Ext H H' φ φ' → SR K mg H' φ' S' → VR K mg H' φ' w v → D.rt v H'
  | .brk e S' => ∀ σ' H' φ', Ext H H' φ φ' → ER K mg H' φ' e σ' → SR K mg H' φ' S' → D.bk σ' H'
  | .cnt e S' => ∀ σ' H' φ', Ext H H' φ φ' → ER K mg H' φ' e σ' → SR K mg H' φ' S' → D.ct σ' H'
  | .exc x e S' => ∀ cls d σ' H' φ', Ext H H' φ φ' → ER K mg H' φ' e σ' → SR K mg H' φ' S' → XR K mg H' φ' x cls d → Wx cls d σ' H'
  | .bad => False
/-- the readings -/
def rE (Wx : WX) (m : EM) : TE := fun σ H Q => ∃ e S φ, ER K mg H φ e σ ∧ SR K mg H φ S ∧ PostR K mg Wx (VR K mg) σ H φ Q (m e S)
def rT (Wx : WX) (m : TM) : TT := fun σ H Q => ∃ e S φ, ER K mg H φ e σ ∧ SR K mg H φ S ∧ PostR K mg Wx (fun _ _ a b => a = b) σ H φ Q (m e S)
def rA (Wx : WX) (m : AM) : TA := fun σ H Q => ∃ e S φ, ER K mg H φ e σ ∧ SR K mg H φ S ∧ PostR K mg Wx (VRs K mg) σ H φ Q (m e S)
def rS (Wx : WX) (m : SM) : TS := fun D σ H => ∃ e S φ, ER K mg H φ e σ ∧ SR K mg H φ S ∧ PostS K mg Wx D H φ (m e S)
end

section
variable {K : PySem.W.Frag} {mg : Str → Option Value} {H H' : Hp} {φ φ' : Fi} {S S' : Store} {e : En} {σ : L2.St} {Wx : WX}
theorem ER.mono (x : Ext H H' φ φ') (h : ER K mg H φ e σ) : ER K mg H' φ' e σ := ⟨h.len, fun i w q => let ⟨v, a, b⟩ := h.at_ i w q; ⟨v, a, b.mono x⟩⟩
theorem ER.monoM (x : Mon H H' φ φ') (h : ER K mg H φ e σ) : ER K mg H' φ' e σ := ⟨h.len, fun i w q => let ⟨v, a, b⟩ := h.at_ i w q; ⟨v, a, b.monoM x⟩⟩
theorem ER.set (h : ER K mg H φ e σ) {i : Nat} {w : W} {v : V} (r : VR K mg H φ w v) : ER K mg H φ (e.set i (some w)) (σ.set i (some v)) := by
  refine ⟨by simp [h.len], fun j w' q => ?_⟩
  by_cases hj : i = j
  · subst hj
    have hl : i < e.length := by
      have := (List.getElem?_eq_some_iff.mp q).1
      simpa using this
    rw [List.getElem?_set_self hl] at q
    cases q
    exact ⟨v, List.getElem?_set_self (by rw [← h.len]; exact hl), r⟩
  · rw [List.getElem?_set_ne hj] at q
    obtain ⟨u, a, b⟩ := h.at_ j w' q
    exact ⟨u, by rw [List.getElem?_set_ne hj]; exact a, b⟩
theorem ER.forget (h : ER K mg H φ e σ) {i : Nat} : ER K mg H φ (e.set i none) (σ.set i none) := by
  refine ⟨by simp [h.len], fun j w' q => ?_⟩
  by_cases hj : i = j
  · subst hj
    have hl : i < e.length := by
      have := (List.getElem?_eq_some_iff.mp q).1
      simpa using this
    rw [List.getElem?_set_self hl] at q
    cases q
  · rw [List.getElem?_set_ne hj] at q
    obtain ⟨u, a, b⟩ := h.at_ j w' q
    exact ⟨u, by rw [List.getElem?_set_ne hj]; exact a, b⟩
theorem ER.wipe (h : ER K mg H φ e σ) : ∀ vs : List Nat, ER K mg H φ (wipeE e vs) (wipe σ vs)
  | [] => h
  | v :: vs => (h.wipe vs).forget
theorem PostR.ext {α β : Type} {Rel : Hp → Fi → α → β → Prop} {Q : β → Hp → Prop} (x : Ext H H' φ φ') : ∀ {r : R α}, PostR K mg Wx Rel σ H φ Q r → PostR K mg Wx Rel σ H' φ' Q r
  | .ok a S, h => fun b H2 φ2 y s r => h b H2 φ2 (x.trans y) s r
  | .exc z S, h => fun c d H2 φ2 y s r => h c d H2 φ2 (x.trans y) s r
  | .bad, h => h
theorem PostS.ext {D : Ends} (x : Ext H H' φ φ') : ∀ {r : RS}, PostS K mg Wx D H φ r → PostS K mg Wx D H' φ' r
  | .nx e S, h => fun b H2 φ2 y s r => h b H2 φ2 (x.trans y) s r
  | .ret w S, h => fun b H2 φ2 y s r => h b H2 φ2 (x.trans y) s r
  | .brk e S, h => fun b H2 φ2 y s r => h b H2 φ2 (x.trans y) s r
  | .cnt e S, h => fun b H2 φ2 y s r => h b H2 φ2 (x.trans y) s r
  | .exc z e S, h => fun c d b H2 φ2 y s r q => h c d b H2 φ2 (x.trans y) s r q
  | .bad, h => h
/-- the first of two -/
theorem PostR.bind {α β α' β' : Type} {Rel : Hp → Fi → α → β → Prop} {Rel' : Hp → Fi → α' → β' → Prop} {Q : β' → Hp → Prop} {G : β → Hp → Prop} {r : R α} {k : α → Store → R α'}
    (h : PostR K mg Wx Rel' σ H φ Q (r.bind k)) (g : ∀ a S1 b H1 φ1, Ext H H1 φ φ1 → SR K mg H1 φ1 S1 → Rel H1 φ1 a b → PostR K mg Wx Rel' σ H1 φ1 Q (k a S1) → G b H1) : PostR K mg Wx Rel σ H φ G r := by
  cases r with
  | ok a S1 => exact fun b H1 φ1 x s q => g a S1 b H1 φ1 x s q (PostR.ext x h)
  | exc z S1 => exact h
  | bad => exact h
theorem PostS.thn {α β : Type} {Rel : Hp → Fi → α → β → Prop} {D : Ends} {G : β → Hp → Prop} {r : R α} {k : α → Store → RS} (er : ER K mg H φ e σ)
    (h : PostS K mg Wx D H φ (r.thn e k)) (g : ∀ a S1 b H1 φ1, Ext H H1 φ φ1 → SR K mg H1 φ1 S1 → Rel H1 φ1 a b → PostS K mg Wx D H1 φ1 (k a S1) → G b H1) : PostR K mg Wx Rel σ H φ G r := by
  cases r with
  | ok a S1 => exact fun b H1 φ1 x s q => g a S1 b H1 φ1 x s q (PostS.ext x h)
  | exc z S1 => exact fun c d H1 φ1 x s q => h c d σ H1 φ1 x (er.mono x) s q
  | bad => exact h
theorem PostR.ok_at {α β : Type} {Rel : Hp → Fi → α → β → Prop} {Q : β → Hp → Prop} {a : α} {b : β} (h : PostR K mg Wx Rel σ H φ Q (.ok a S)) (s : SR K mg H φ S) (r : Rel H φ a b) : Q b H := h b H φ .refl s r
theorem leE {X : Cx} {x : Expr} {t t' : TE} (h : PE X x t) (g : ∀ σ H Q, t' σ H Q → t σ H Q) : PE X x t' := ⟨fun pins s σ H Q I q => h.run pins s σ H Q I (g σ H Q q)⟩
theorem leT {X : Cx} {x : Expr} {t t' : TT} (h : PT X x t) (g : ∀ σ H Q, t' σ H Q → t σ H Q) : PT X x t' := ⟨fun pins s σ H Q I q => h.run pins s σ H Q I (g σ H Q q)⟩
theorem lePW {X : Cx} {x : Expr} {t t' : TT} (h : PW X x t) (g : ∀ σ H Q, t' σ H Q → t σ H Q) : PW X x t' := ⟨fun wh pins s σ H Q I q => h.run wh pins s σ H Q I (g σ H Q q)⟩
theorem leA {X : Cx} {x : List Expr} {t t' : TA} (h : PA X x t) (g : ∀ σ H Q, t' σ H Q → t σ H Q) : PA X x t' := ⟨fun pos pins s σ H Q I q => h.run pos pins s σ H Q I (g σ H Q q)⟩
theorem leS {X : Cx} {x : Stmt} {t t' : TS} (h : PS X x t) (g : ∀ D σ H, t' D σ H → t D σ H) : PS X x t' := ⟨fun pins s σ H D I q => h.run pins s σ H D I (g D σ H q)⟩
theorem leSs {X : Cx} {x : List Stmt} {t t' : TS} (h : PSs X x t) (g : ∀ D σ H, t' D σ H → t D σ H) : PSs X x t' := ⟨fun pins s σ H D I q => h.run pins s σ H D I (g D σ H q)⟩
end

/-! ### expressions -/
section
variable {X : Cx} {Wx : WX}
/-- short: the readings in a context -/
abbrev ME (X : Cx) (Wx : WX) (x : Expr) (m : EM) : Prop := PE X x (rE X.K X.mg Wx m)
abbrev MT (X : Cx) (Wx : WX) (x : Expr) (m : TM) : Prop := PT X x (rT X.K X.mg Wx m)
abbrev MW (X : Cx) (Wx : WX) (x : Expr) (m : TM) : Prop := PW X x (rT X.K X.mg Wx m)
abbrev MA (X : Cx) (Wx : WX) (x : List Expr) (m : AM) : Prop := PA X x (rA X.K X.mg Wx m)
abbrev MS (X : Cx) (Wx : WX) (x : Stmt) (m : SM) : Prop := PS X x (rS X.K X.mg Wx m)
abbrev MSs (X : Cx) (Wx : WX) (x : List Stmt) (m : SM) : Prop := PSs X x (rS X.K X.mg Wx m)
variable {a b c : Expr} {A B : EM} {pos : Pos}

theorem m_var {i : Nat} {x : Str} (h : PE X (.Name x pos) (tVar i)) : ME X Wx (.Name x pos) (eVar i) := leE h fun σ H Q ⟨e, S, φ, er, sr, q⟩ => by
  unfold eVar at q
  split at q
  · rename_i w hw
    obtain ⟨v, e1, r⟩ := er.at_ i w hw
    exact ⟨v, e1, q.ok_at sr r⟩
  · exact q.elim
theorem m_const {v : V} {w : W} (h : PE X a (fun _ H Q => Q v H)) (r : ∀ H φ, VR X.K X.mg H φ w v) : ME X Wx a (eC w) := leE h fun σ H Q ⟨e, S, φ, er, sr, q⟩ => q.ok_at sr (r H φ)
theorem m_int {i : Int} {j : Nat} : ME X Wx (.Constant (.int i) j pos) (eC (.int i)) := m_const pe_int fun _ _ => by simp [VR]
theorem m_bl {i : Bool} {j : Nat} : ME X Wx (.Constant (.bool i) j pos) (eC (.bl i)) := m_const pe_bl fun _ _ => by simp [VR]
theorem m_non {j : Nat} : ME X Wx (.Constant .none j pos) (eC .non) := m_const pe_non fun _ _ => by simp [VR]
theorem m_str {x : Str} {j : Nat} : ME X Wx (.Constant (.str x) j pos) (eC (.str x)) := m_const pe_str fun _ _ => by simp [VR]
/-- a global of the module, as a value -/
theorem m_glo {x : Str} {u : Addr} (hg : Gl X x) (hm : X.mg x = some (.ref u)) (hd : (x == ("__debug__" : Str)) = false := by decide) : ME X Wx (.Name x pos) (eC (.glo x)) :=
  m_const (pe_glob (v := .ref u) hg hm rfl hd) fun _ _ => by simp only [VR]; exact ⟨u, hm, rfl⟩
/-- a global that is a tuple, a number, a text -/
theorem m_gloV {x : Str} {u : Value} {v : V} {w : W} (hg : Gl X x) (hm : X.mg x = some u) (r : RelV v u) (hw : ∀ H φ, VR X.K X.mg H φ w v) (hd : (x == ("__debug__" : Str)) = false := by decide) : ME X Wx (.Name x pos) (eC w) :=
  m_const (pe_glob hg hm r hd) hw

/-- a primitive is sound for a rule -/
def Snd1 (K : PySem.W.Frag) (mg : Str → Option Value) (f : P1) (r : V → Hp → VK → Prop) : Prop := ∀ w S u S' H φ v Q, SR K mg H φ S → VR K mg H φ w v → f w S = some (u, S') →
  (∀ z H' φ', Ext H H' φ φ' → SR K mg H' φ' S' → VR K mg H' φ' u z → Q z H') → r v H Q
def Snd2 (K : PySem.W.Frag) (mg : Str → Option Value) (f : P2) (r : R2) : Prop := ∀ w w' S u S' H φ v v' Q, SR K mg H φ S → VR K mg H φ w v → VR K mg H φ w' v' → f w w' S = some (u, S') →
  (∀ z H' φ', Ext H H' φ φ' → SR K mg H' φ' S' → VR K mg H' φ' u z → Q z H') → r v v' H Q
def SndN (K : PySem.W.Frag) (mg : Str → Option Value) (f : PN) (r : List V → Hp → VK → Prop) : Prop := ∀ ws S u S' H φ vs Q, SR K mg H φ S → VRs K mg H φ ws vs → f ws S = some (u, S') →
  (∀ z H' φ', Ext H H' φ φ' → SR K mg H' φ' S' → VR K mg H' φ' u z → Q z H') → r vs H Q
theorem post_lift {K : PySem.W.Frag} {mg : Str → Option Value} {H : Hp} {φ : Fi} {σ : L2.St} {Q : VK} {o : Option (W × Store)} (h : PostR K mg Wx (VR K mg) σ H φ Q (lift o)) :
    ∃ u S', o = some (u, S') ∧ ∀ z H' φ', Ext H H' φ φ' → SR K mg H' φ' S' → VR K mg H' φ' u z → Q z H' := by
  cases o with
  | none => exact h.elim
  | some p => exact ⟨p.1, p.2, rfl, h⟩
theorem m_1 {f : P1} {r : V → Hp → VK → Prop} (hf : Snd1 X.K X.mg f r) (hp : PE X c (fun σ H Q => rE X.K X.mg Wx A σ H fun x H1 => r x H1 Q)) : ME X Wx c (e1 f A) := leE hp fun σ H Q ⟨e, S, φ, er, sr, q⟩ =>
  ⟨e, S, φ, er, sr, q.bind fun w S1 v H1 φ1 x1 s1 r1 q1 => by
    obtain ⟨u, S', h1, h2⟩ := post_lift q1
    exact hf w S1 u S' H1 φ1 v Q s1 r1 h1 h2⟩
theorem m_2 {f : P2} {r : R2} (hf : Snd2 X.K X.mg f r) (hp : PE X c (tOp r (rE X.K X.mg Wx A) (rE X.K X.mg Wx B))) : ME X Wx c (e2 f A B) := leE hp fun σ H Q ⟨e, S, φ, er, sr, q⟩ =>
  ⟨e, S, φ, er, sr, q.bind fun w S1 v H1 φ1 x1 s1 r1 q1 => ⟨e, S1, φ1, er.mono x1, s1, q1.bind fun w' S2 v' H2 φ2 x2 s2 r2 q2 => by
    obtain ⟨u, S', h1, h2⟩ := post_lift q2
    exact hf w w' S2 u S' H2 φ2 v v' Q s2 (r1.mono x2) r2 h1 h2⟩⟩
theorem m_op {op : Operator} {f : P2} {r : R2} (ho : OpR X (binaryOp op) r) (hf : Snd2 X.K X.mg f r) (ha : ME X Wx a A) (hb : ME X Wx b B) : ME X Wx (.BinOp a op b pos) (e2 f A B) := m_2 hf (pe_op ho ha hb)
theorem m_un {op : UnaryOp} {f : P1} {r : V → Hp → VK → Prop} (ho : UnR X (unaryOp op) r) (hf : Snd1 X.K X.mg f r) (ha : ME X Wx a A) : ME X Wx (.UnaryOp op a pos) (e1 f A) := m_1 hf (pe_un ho ha)
theorem m_cmp {op : CmpOp} {f : P2} {r : R2} (ho : OpR X (compareOp op) r) (hf : Snd2 X.K X.mg f r) (ha : ME X Wx a A) (hb : ME X Wx b B) (hm : behindInMarks op b = false) : ME X Wx (.Compare a [op] [b] pos) (e2 f A B) := m_2 hf (pe_cmpR ho ha hb hm)
theorem m_ix {f : P2} {r : R2} (ho : IxR X r) (hf : Snd2 X.K X.mg f r) (ha : ME X Wx a A) (hb : ME X Wx b B) (hs : PlainIx b := by exact fun _ _ => rfl) : ME X Wx (.Subscript a b pos) (e2 f A B) := m_2 hf (pe_ix ho ha hb hs)
/-- the value's truth, from a bool -/
theorem post_bol {K : PySem.W.Frag} {mg : Str → Option Value} {H : Hp} {φ : Fi} {σ : L2.St} {S : Store} {w : W} {v : V} {Q : Bool → Hp → Prop} (s : SR K mg H φ S) (r : VR K mg H φ w v)
    (h : PostR K mg Wx (fun _ _ a b => a = b) σ H φ Q (liftB (bolW w) S)) : ∃ k, v = .bl k ∧ Q k H := by
  cases w with
  | bl k => exact ⟨k, r, h.ok_at s rfl⟩
  | _ => exact h.elim
theorem mt_cmp {op : CmpOp} {f : P2} {r : R2} (ho : OpR X (compareOp op) r) (hf : Snd2 X.K X.mg f r) (ha : ME X Wx a A) (hb : ME X Wx b B) (hm : behindInMarks op b = false) : MT X Wx (.Compare a [op] [b] pos) (tB (e2 f A B)) :=
  leT (pt_cmpR ho ha hb hm) fun σ H Q ⟨e, S, φ, er, sr, q⟩ => by
    have q' : PostR X.K X.mg Wx (VR X.K X.mg) σ H φ (fun v H1 => ∃ k, v = .bl k ∧ Q k H1) (e2 f A B e S) := PostR.bind q fun w S1 v H1 φ1 x1 s1 r1 q1 => post_bol s1 r1 q1
    refine ⟨e, S, φ, er, sr, PostR.bind q' fun w S1 v H1 φ1 x1 s1 r1 q1 => ⟨e, S1, φ1, er.mono x1, s1, q1.bind fun w' S2 v' H2 φ2 x2 s2 r2 q2 => ?_⟩⟩
    obtain ⟨u, S', h1, h2⟩ := post_lift q2
    exact hf w w' S2 u S' H2 φ2 v v' _ s2 (r1.mono x2) r2 h1 h2
/-- a op b op c -/
def eChain (f g : P2) (a b c : EM) : EM := fun e S => (a e S).bind fun x S1 => (b e S1).bind fun y S2 => (lift (f x y S2)).bind fun k S3 => (liftB (bolW k) S3).bind fun k S4 => if k = true then (c e S4).bind fun z S5 => lift (g y z S5) else .ok (.bl false) S4
theorem post_chain {K : PySem.W.Frag} {mg : Str → Option Value} {f g : P2} {r r' : R2} (hf : Snd2 K mg f r) (hg : Snd2 K mg g r') {A B C : EM} {σ : L2.St} {H : Hp} {Q : VK} {e : En} {S : Store} {φ : Fi} (er : ER K mg H φ e σ) (sr : SR K mg H φ S)
    (q : PostR K mg Wx (VR K mg) σ H φ Q (eChain f g A B C e S)) : tChain r r' (rE K mg Wx A) (rE K mg Wx B) (rE K mg Wx C) σ H Q := by
  refine ⟨e, S, φ, er, sr, PostR.bind q fun w S1 v H1 φ1 x1 s1 r1 q1 => ⟨e, S1, φ1, er.mono x1, s1, q1.bind fun w' S2 v' H2 φ2 x2 s2 r2 q2 => ?_⟩⟩
  have q3 : PostR K mg Wx (VR K mg) σ H2 φ2 (fun z H3 => ∃ k, z = .bl k ∧ if k = true then rE K mg Wx C σ H3 (fun z' H4 => r' v' z' H4 Q) else Q (.bl false) H3) (lift (f w w' S2)) := PostR.bind q2 fun k S3 kv H3 φ3 x3 s3 r3 q3 => by
    cases k with
    | bl k =>
      have e3 : kv = .bl k := r3
      subst e3
      refine ⟨k, rfl, ?_⟩
      cases k with
      | false => exact PostR.ok_at q3 s3 (show VR K mg H3 φ3 (.bl false) (.bl false) from rfl)
      | true =>
        refine ⟨e, S3, φ3, ((er.mono x1).mono x2).mono x3, s3, PostR.bind q3 fun w3 S4 v3 H4 φ4 x4 s4 r4 q4 => ?_⟩
        obtain ⟨u, S', h1, h2⟩ := post_lift q4
        exact hg w' w3 S4 u S' H4 φ4 v' v3 Q s4 ((r2.mono x3).mono x4) r4 h1 h2
    | _ => exact q3.elim
  obtain ⟨u, S', h1, h2⟩ := post_lift q3
  exact hf w w' S2 u S' H2 φ2 v v' _ s2 (r1.mono x2) r2 h1 h2
theorem m_chain {op op' : CmpOp} {f g : P2} {r r' : R2} {C : EM} (ho : OpR X (compareOp op) r) (ho' : OpR X (compareOp op') r') (hf : Snd2 X.K X.mg f r) (hg : Snd2 X.K X.mg g r') (ha : ME X Wx a A) (hb : ME X Wx b B) (hc : ME X Wx c C)
    (hm : lastMarks [op, op'] [b, c] = false := by with_unfolding_all rfl) : ME X Wx (.Compare a [op, op'] [b, c] pos) (eChain f g A B C) :=
  leE (pe_chain ho ho' ha hb hc hm) fun σ H Q ⟨e, S, φ, er, sr, q⟩ => post_chain hf hg er sr q
theorem mt_chain {op op' : CmpOp} {f g : P2} {r r' : R2} {C : EM} (ho : OpR X (compareOp op) r) (ho' : OpR X (compareOp op') r') (hf : Snd2 X.K X.mg f r) (hg : Snd2 X.K X.mg g r') (ha : ME X Wx a A) (hb : ME X Wx b B) (hc : ME X Wx c C)
    (hm : lastMarks [op, op'] [b, c] = false := by with_unfolding_all rfl) : MT X Wx (.Compare a [op, op'] [b, c] pos) (tB (eChain f g A B C)) :=
  leT (pt_chain ho ho' ha hb hc hm) fun σ H Q ⟨e, S, φ, er, sr, q⟩ =>
    post_chain (Q := fun v H1 => ∃ k, v = .bl k ∧ Q k H1) hf hg er sr (PostR.bind q fun w S1 v H1 φ1 x1 s1 r1 q1 => post_bol s1 r1 q1)

/-! ### truth -/
theorem truW_ok {K : PySem.W.Frag} {mg : Str → Option Value} {H : Hp} {φ : Fi} {S : Store} {w : W} {v : V} {k : Bool} (s : SR K mg H φ S) (r : VR K mg H φ w v) (h : truW w S = some k) : TruV K v H k := by
  cases w with
  | non => cases (show v = .non from r); cases h; rfl
  | bl b => cases (show v = .bl b from r); cases h; rfl
  | int i => cases (show v = .int i from r); cases h; rfl
  | str x =>
    cases (show v = .str x from r)
    simp only [truW] at h
    split at h
    · rename_i hz; cases h; exact ⟨hz, rfl⟩
    · cases h
  | tup xs =>
    simp only [VR] at r
    obtain ⟨p, vs, rfl, q, rr⟩ := r
    cases h
    refine .inr (.inl ⟨vs, q.sq, ?_⟩)
    have := rr.length
    cases xs <;> cases vs <;> simp_all
  | lst xs =>
    simp only [VR] at r
    obtain ⟨p, vs, rfl, q, rr⟩ := r
    cases h
    refine .inl ⟨vs, q.sq, ?_⟩
    have := rr.length
    cases xs <;> cases vs <;> simp_all
  | scr ns =>
    simp only [VR] at r
    obtain ⟨p, rfl, q⟩ := r
    cases h
    exact .inl ⟨_, q.sq, by cases ns <;> rfl⟩
  | dic ks ws =>
    simp only [VR] at r
    obtain ⟨p, us, rfl, n, q, k, rr⟩ := r
    cases h
    refine .inr (.inr ⟨us, q, ?_⟩)
    subst k
    cases us <;> rfl
  | ref a =>
    simp only [VR] at r
    obtain ⟨p, rfl, q⟩ := r
    obtain ⟨ob, e1, o⟩ := s.ob q
    simp only [truW, e1] at h
    cases ob with
    | lst xs =>
      cases h
      obtain ⟨vs, e2, rr⟩ := o
      refine .inl ⟨vs, SqL.of e2, ?_⟩
      have := rr.length
      cases xs <;> cases vs <;> simp_all
    | dic kvs =>
      cases h
      obtain ⟨us, e2, k1, rr⟩ := o
      refine .inr (.inr ⟨us, e2, ?_⟩)
      cases kvs <;> cases us <;> simp_all
    | ins c fs => cases h
  | _ => cases h
theorem post_tru {K : PySem.W.Frag} {mg : Str → Option Value} {H : Hp} {φ : Fi} {σ : L2.St} {S : Store} {w : W} {v : V} {β : Type} {α : Type} {Rel : Hp → Fi → α → β → Prop} {Q : β → Hp → Prop} {k : Bool → Store → R α} (s : SR K mg H φ S) (r : VR K mg H φ w v)
    (h : PostR K mg Wx Rel σ H φ Q ((liftB (truW w S) S).bind k)) : ∃ b, TruV K v H b ∧ PostR K mg Wx Rel σ H φ Q (k b S) := by
  cases e : truW w S with
  | none => rw [e] at h; exact h.elim
  | some b => rw [e] at h; exact ⟨b, truW_ok s r e, h⟩
theorem mt_truth (ha : ME X Wx a A) (he : ∀ whole, isTrue a X.env whole = (do let v ← whole; standAt a.pos; holding [v] (truthy v)) := by intro _; rfl) : MT X Wx a (tE A) :=
  leT (pt_truth ha he) fun σ H Q ⟨e, S, φ, er, sr, q⟩ => ⟨e, S, φ, er, sr, PostR.bind q fun w S1 v H1 φ1 x1 s1 r1 q1 => by
    have q2 : PostR X.K X.mg Wx (fun _ _ a b => a = b) σ H1 φ1 Q ((liftB (truW w S1) S1).bind fun b S => .ok b S) := by
      cases e : truW w S1 with
      | none => rw [e] at q1; exact q1
      | some b => rw [e] at q1; exact q1
    obtain ⟨b, t, q3⟩ := post_tru s1 r1 q2
    exact ⟨b, t, q3.ok_at s1 rfl⟩⟩
variable {U T : TM}
theorem mt_not (ha : MT X Wx a T) : MT X Wx (.UnaryOp .Not a pos) (tNot T) := leT (pt_not ha) fun σ H Q ⟨e, S, φ, er, sr, q⟩ => ⟨e, S, φ, er, sr, PostR.bind q fun w S1 v H1 φ1 x1 s1 r1 q1 => by
  subst r1
  exact q1.ok_at s1 rfl⟩
variable {rest : List Expr}
theorem mw_and1 (ha : MT X Wx a T) : MW X Wx (.BoolOp .And [a] pos) T := pw_and1 ha
theorem mw_or1 (ha : MT X Wx a T) : MW X Wx (.BoolOp .Or [a] pos) T := pw_or1 ha
theorem mw_and (ha : MT X Wx a T) (hb : MW X Wx (.BoolOp .And (b :: rest) pos) U) : MW X Wx (.BoolOp .And (a :: b :: rest) pos) (tAnd T U) := lePW (pw_and ha hb) fun σ H Q ⟨e, S, φ, er, sr, q⟩ => ⟨e, S, φ, er, sr, PostR.bind q fun w S1 v H1 φ1 x1 s1 r1 q1 => by
  subst r1
  cases w with
  | true => rw [if_pos rfl]; exact ⟨e, S1, φ1, er.mono x1, s1, q1⟩
  | false => rw [if_neg Bool.false_ne_true]; exact PostR.ok_at q1 s1 rfl⟩
theorem mw_or (ha : MT X Wx a T) (hb : MW X Wx (.BoolOp .Or (b :: rest) pos) U) : MW X Wx (.BoolOp .Or (a :: b :: rest) pos) (tOr T U) := lePW (pw_or ha hb) fun σ H Q ⟨e, S, φ, er, sr, q⟩ => ⟨e, S, φ, er, sr, PostR.bind q fun w S1 v H1 φ1 x1 s1 r1 q1 => by
  subst r1
  cases w with
  | true => rw [if_pos rfl]; exact PostR.ok_at q1 s1 rfl
  | false => rw [if_neg Bool.false_ne_true]; exact ⟨e, S1, φ1, er.mono x1, s1, q1⟩⟩
theorem mw_pt (h : MW X Wx a T) : MT X Wx a T := h.pt
theorem m_one {op : BoolOp} (h : ME X Wx a A) : ME X Wx (.BoolOp op [a] pos) A := pe_one h
theorem m_and (ha : ME X Wx a A) (hb : ME X Wx (.BoolOp .And (b :: rest) pos) B) : ME X Wx (.BoolOp .And (a :: b :: rest) pos) (eAnd A B) := leE (pe_andT ha hb) fun σ H Q ⟨e, S, φ, er, sr, q⟩ => ⟨e, S, φ, er, sr, PostR.bind q fun w S1 v H1 φ1 x1 s1 r1 q1 => by
  obtain ⟨k, t, q2⟩ := post_tru s1 r1 q1
  refine ⟨k, t, ?_⟩
  cases k with
  | true => rw [if_pos rfl]; exact ⟨e, S1, φ1, er.mono x1, s1, q2⟩
  | false => rw [if_neg Bool.false_ne_true]; exact PostR.ok_at q2 s1 r1⟩
theorem m_or (ha : ME X Wx a A) (hb : ME X Wx (.BoolOp .Or (b :: rest) pos) B) : ME X Wx (.BoolOp .Or (a :: b :: rest) pos) (eOr A B) := leE (pe_orT ha hb) fun σ H Q ⟨e, S, φ, er, sr, q⟩ => ⟨e, S, φ, er, sr, PostR.bind q fun w S1 v H1 φ1 x1 s1 r1 q1 => by
  obtain ⟨k, t, q2⟩ := post_tru s1 r1 q1
  refine ⟨k, t, ?_⟩
  cases k with
  | true => rw [if_pos rfl]; exact PostR.ok_at q2 s1 r1
  | false => rw [if_neg Bool.false_ne_true]; exact ⟨e, S1, φ1, er.mono x1, s1, q2⟩⟩
theorem m_not (ha : ME X Wx a A) : ME X Wx (.UnaryOp .Not a pos) (eNot A) := leE (pe_notT ha) fun σ H Q ⟨e, S, φ, er, sr, q⟩ => ⟨e, S, φ, er, sr, PostR.bind q fun w S1 v H1 φ1 x1 s1 r1 q1 => by
  obtain ⟨k, t, q2⟩ := post_tru s1 r1 q1
  exact ⟨k, t, PostR.ok_at q2 s1 (show VR X.K X.mg H1 φ1 (.bl (!k)) (.bl (!k)) from rfl)⟩⟩
theorem m_if {C : TM} (hc : MT X Wx c C) (ha : ME X Wx a A) (hb : ME X Wx b B) : ME X Wx (.IfExp c a b pos) (eIf C A B) := leE (pe_ifExp hc ha hb) fun σ H Q ⟨e, S, φ, er, sr, q⟩ => ⟨e, S, φ, er, sr, PostR.bind q fun w S1 v H1 φ1 x1 s1 r1 q1 => by
  subst r1
  cases w with
  | true => rw [if_pos rfl]; exact ⟨e, S1, φ1, er.mono x1, s1, q1⟩
  | false => rw [if_neg Bool.false_ne_true]; exact ⟨e, S1, φ1, er.mono x1, s1, q1⟩⟩

/-! ### argument lists, displays, calls -/
variable {es : List Expr} {As : List EM}
theorem ma_nil : MA X Wx [] (evs []) := leA pa_nil fun σ H Q ⟨e, S, φ, er, sr, q⟩ => PostR.ok_at q sr .nil
theorem ma_cons (ha : ME X Wx a A) (hr : MA X Wx es (evs As)) (hs : starEach (a :: es) X.env = (false, eval a X.env) :: starEach es X.env := by rfl) : MA X Wx (a :: es) (evs (A :: As)) :=
  leA (pa_cons ha hr hs) fun σ H Q ⟨e, S, φ, er, sr, q⟩ => ⟨e, S, φ, er, sr, PostR.bind q fun w S1 v H1 φ1 x1 s1 r1 q1 => ⟨e, S1, φ1, er.mono x1, s1, q1.bind fun ws S2 vs H2 φ2 x2 s2 r2 q2 => q2.ok_at s2 (.cons (r1.mono x2) r2)⟩⟩
theorem m_N {f : PN} {r : List V → Hp → VK → Prop} (hf : SndN X.K X.mg f r) (hp : PE X c (fun σ H Q => rA X.K X.mg Wx (evs As) σ H fun vs H1 => r vs H1 Q)) : ME X Wx c (eN f As) := leE hp fun σ H Q ⟨e, S, φ, er, sr, q⟩ =>
  ⟨e, S, φ, er, sr, q.bind fun ws S1 vs H1 φ1 x1 s1 r1 q1 => by
    obtain ⟨u, S', h1, h2⟩ := post_lift q1
    exact hf ws S1 u S' H1 φ1 vs Q s1 r1 h1 h2⟩
theorem szv {K : PySem.W.Frag} {mg : Str → Option Value} {H : Hp} {φ : Fi} {ws : List W} {vs : List V} (h : VRs K mg H φ ws vs) (z : ws.length ≤ sizeLine) : vs.length ≤ sizeLine := by rw [← h.length]; exact z
def tupN : PN := fun ws S => if ws.length ≤ sizeLine then some (.tup ws, S) else none
def lstN (m : Bool) : PN := fun ws S => if ws.length ≤ sizeLine then some (mkL m ws S) else none
theorem snd_tup {K : PySem.W.Frag} {mg : Str → Option Value} : SndN K mg tupN (fun vs H Q => vs.length ≤ sizeLine ∧ ∀ p, H p = none → Q (.ref p) (upd H p (.tup vs))) := fun ws S u S' H φ vs Q s r h q => by
  unfold tupN at h
  split at h
  · rename_i hz
    cases h
    refine ⟨szv r hz, fun p hp => ?_⟩
    obtain ⟨x, s'⟩ := s.extra (o := .tup vs) hp
    exact q _ _ _ x s' (by simp only [VR]; exact ⟨p, vs, rfl, .inl upd_same, r.mono x⟩)
  · cases h
/-- a new list: the store's own, or a value -/
theorem new_lst {K : PySem.W.Frag} {mg : Str → Option Value} {H : Hp} {φ : Fi} {S : Store} {ws : List W} {vs : List V} {Q : VK} {m : Bool} (s : SR K mg H φ S) (r : VRs K mg H φ ws vs)
    (q : ∀ z H' φ', Ext H H' φ φ' → SR K mg H' φ' (mkL m ws S).2 → VR K mg H' φ' (mkL m ws S).1 z → Q z H') (p : Addr) (hp : H p = none) : Q (.ref p) (upd H p (.lst vs)) := by
  cases m with
  | true =>
    obtain ⟨x, s', l⟩ := s.push (ob := .lst ws) (o := .lst vs) hp fun H' φ' x' e => ⟨vs, e, r.mono x'⟩
    exact q _ _ _ x s' (by simp only [mkL_t, VR]; exact ⟨p, rfl, l⟩)
  | false =>
    obtain ⟨x, s'⟩ := s.extra (o := .lst vs) hp
    exact q _ _ _ x s' (by simp only [mkL_f, VR]; exact ⟨p, vs, rfl, ⟨s.notin hp, upd_same⟩, r.mono x⟩)
theorem snd_lst {K : PySem.W.Frag} {mg : Str → Option Value} {m : Bool} : SndN K mg (lstN m) (fun vs H Q => vs.length ≤ sizeLine ∧ ∀ p, H p = none → Q (.ref p) (upd H p (.lst vs))) := fun ws S u S' H φ vs Q s r h q => by
  unfold lstN at h
  split at h
  · rename_i hz
    have e := Option.some.inj h
    exact ⟨szv r hz, new_lst (m := m) s r (by rw [e]; exact q)⟩
  · cases h
theorem m_tup {k : Nat} (h : MA X Wx es (evs As)) : ME X Wx (.Tuple es k pos) (eN tupN As) := m_N snd_tup (pe_tup h)
theorem m_lst {m : Bool} (h : MA X Wx es (evs As)) : ME X Wx (.List es pos) (eN (lstN m) As) := m_N snd_lst (pe_lst h)
theorem m_callB {f : PN} {r : List V → Hp → VK → Prop} {x : Str} {id : String} {p : Pos} (hf : SndN X.K X.mg f r) (hc : CallR X (.builtin id) r) (hg : Gl X x) (hm : X.mg x = none) (hv : bootBuiltins x = some (.builtin id)) (ha : MA X Wx (a :: es) (evs As)) (hn : x ≠ "__name__" := by decide) (hdb : (x == ("__debug__" : Str)) = false := by decide)
    (he : starEach (a :: es) X.env = (false, eval a X.env) :: starEach es X.env := by rfl) (hpl : (backTo pos (starEach es X.env)).any (·.1) = false := by rfl) : ME X Wx (.Call (.Name x p) (a :: es) [] pos) (eN f As) :=
  m_N hf (pe_callB hc hg hm hv ha hn hdb he hpl)
theorem m_callTy {f : PN} {r : List V → Hp → VK → Prop} {x : Str} {id : String} {p : Pos} (hf : SndN X.K X.mg f r) (hc : CallR X (.type id) r) (hg : Gl X x) (hm : X.mg x = none) (hv : bootBuiltins x = some (.type id)) (ha : MA X Wx (a :: es) (evs As)) (hn : x ≠ "__name__" := by decide) (hdb : (x == ("__debug__" : Str)) = false := by decide)
    (he : starEach (a :: es) X.env = (false, eval a X.env) :: starEach es X.env := by rfl) (hpl : (backTo pos (starEach es X.env)).any (·.1) = false := by rfl) : ME X Wx (.Call (.Name x p) (a :: es) [] pos) (eN f As) :=
  m_N hf (pe_callTy hc hg hm hv ha hn hdb he hpl)
end
end Sh

set_option Elab.async false
set_option linter.all false
set_option maxRecDepth 100000
set_option maxHeartbeats 2000000
/-! ShS: the rules of statements, loops, comprehensions. -/
namespace Sh
open PySem PySem.Spec PyProof.Rows L2

section
variable {X : Cx} {Wx : WX} {a b c : Expr} {A B : EM} {C : TM} {pos : Pos} {st : Stmt} {rest : List Stmt} {M N : SM}
theorem PostS.seq {K : PySem.W.Frag} {mg : Str → Option Value} {H : Hp} {φ : Fi} {D : Ends} {r : RS} (q : PostS K mg Wx D H φ (r.seq N)) : PostS K mg Wx { D with nx := rS K mg Wx N D } H φ r := by
  cases r with
  | nx e S => exact fun σ' H' φ' x er sr => ⟨e, S, φ', er, sr, PostS.ext x q⟩
  | _ => exact q
theorem ms_nil : MSs X Wx [] sNil := leSs pss_nil fun D σ H ⟨e, S, φ, er, sr, q⟩ => q σ H φ .refl er sr
theorem ms_cons (h1 : MS X Wx st M) (h2 : MSs X Wx rest N) : MSs X Wx (st :: rest) (sSeq M N) := leSs (pss_cons h1 h2) fun D σ H ⟨e, S, φ, er, sr, q⟩ => ⟨e, S, φ, er, sr, PostS.seq q⟩
theorem ms_one (h1 : MS X Wx st M) : MSs X Wx [st] M := pss_one h1
theorem ms_bad : MS X Wx st sBad := leS ps_never fun D σ H ⟨e, S, φ, er, sr, q⟩ => q.elim
theorem mss_bad {sts : List Stmt} : MSs X Wx sts sBad := leSs pss_never fun D σ H ⟨e, S, φ, er, sr, q⟩ => q.elim
theorem ms_pass : MS X Wx (.Pass pos) sNil := leS ps_pass fun D σ H ⟨e, S, φ, er, sr, q⟩ => q σ H φ .refl er sr
theorem ms_brk : MS X Wx (.Break pos) sBrk := leS ps_break fun D σ H ⟨e, S, φ, er, sr, q⟩ => q σ H φ .refl er sr
theorem ms_cnt : MS X Wx (.Continue pos) sCnt := leS ps_continue fun D σ H ⟨e, S, φ, er, sr, q⟩ => q σ H φ .refl er sr
theorem ms_if {p q : List Stmt} (hc : MT X Wx c C) (ha : MSs X Wx p M) (hb : MSs X Wx q N) : MS X Wx (.If c p q pos) (sIf C M N) := leS (ps_if hc ha hb) fun D σ H ⟨e, S, φ, er, sr, q⟩ => ⟨e, S, φ, er, sr, PostS.thn er q fun k S1 v H1 φ1 x1 s1 r1 q1 => by
  subst r1
  cases k with
  | true => rw [if_pos rfl]; exact ⟨e, S1, φ1, er.mono x1, s1, q1⟩
  | false => rw [if_neg Bool.false_ne_true]; exact ⟨e, S1, φ1, er.mono x1, s1, q1⟩⟩
theorem ms_ret (ha : ME X Wx a A) : MS X Wx (.Return (some a) pos) (sRet A) := leS (ps_ret ha) fun D σ H ⟨e, S, φ, er, sr, q⟩ => ⟨e, S, φ, er, sr, PostS.thn er q fun w S1 v H1 φ1 x1 s1 r1 q1 => q1 v H1 φ1 .refl s1 r1⟩
theorem ms_retN : MS X Wx (.Return none pos) sRetN := leS ps_retN fun D σ H ⟨e, S, φ, er, sr, q⟩ => q .non H φ .refl sr (by simp [VR])
theorem ms_expr (ha : ME X Wx a A) (hs : swapsWith a none pos.line X.env = pure false := by rfl) : MS X Wx (.Expr a pos) (sExpr A) := leS (ps_expr ha hs) fun D σ H ⟨e, S, φ, er, sr, q⟩ => ⟨e, S, φ, er, sr, PostS.thn er q fun w S1 v H1 φ1 x1 s1 r1 q1 => q1 σ H1 φ1 .refl (er.mono x1) s1⟩
theorem ms_set {i : Nat} {x : Str} {pos' : Pos} (hN : X.N.Nodup) (hi : X.N[i]? = some x) (hx : Loc X.env.scope x) (ha : ME X Wx a A) (hs : swapsWith a (some (.Name x pos')) pos.line X.env = pure false := by rfl) (hf : X.fn x = true ∨ X.env.scope.names.lookup x = some .local := by first | exact .inl rfl | exact .inr rfl | assumption) :
    MS X Wx (.Assign [.Name x pos'] a pos) (sSet i A) := leS (ps_set hN hi hx ha hs hf) fun D σ H ⟨e, S, φ, er, sr, q⟩ => ⟨e, S, φ, er, sr, PostS.thn er q fun w S1 v H1 φ1 x1 s1 r1 q1 => q1 _ H1 φ1 .refl ((er.mono x1).set r1) s1⟩
/-- y = [..] by the comprehension's own store -/
theorem ms_setV {i : Nat} (h : PS X st (tAsg (rE X.K X.mg Wx A) (gName i))) : MS X Wx st (sSet i A) := leS h fun D σ H ⟨e, S, φ, er, sr, q⟩ => ⟨e, S, φ, er, sr, PostS.thn er q fun w S1 v H1 φ1 x1 s1 r1 q1 => q1 _ H1 φ1 .refl ((er.mono x1).set r1) s1⟩

/-! ### targets -/
def rG (K : PySem.W.Frag) (mg : Str → Option Value) (g : GM) : TG := fun v σ H Q => ∃ w e S φ e' S', VR K mg H φ w v ∧ ER K mg H φ e σ ∧ SR K mg H φ S ∧ g w e S = some (e', S') ∧
  ∀ σ' H' φ', Ext H H' φ φ' → ER K mg H' φ' e' σ' → SR K mg H' φ' S' → Q σ' H'
def rGs (K : PySem.W.Frag) (mg : Str → Option Value) (is : List Nat) : TGs := fun vs σ H Q => ∃ ws e S φ, VRs K mg H φ ws vs ∧ ER K mg H φ e σ ∧ SR K mg H φ S ∧ ws.length = is.length ∧
  ∀ σ' H' φ', Ext H H' φ φ' → ER K mg H' φ' (setVars is ws e) σ' → SR K mg H' φ' S → Q σ' H'
abbrev MG (X : Cx) (t : Expr) (g : GM) : Prop := PG X t (rG X.K X.mg g)
theorem leG {X : Cx} {t : Expr} {g g' : TG} (h : PG X t g) (f : ∀ v σ H Q, g' v σ H Q → g v σ H Q) : PG X t g' := ⟨fun pins s σ H v u Q I r q => h.run pins s σ H v u Q I r (f v σ H Q q)⟩
theorem leGs {X : Cx} {t : List Expr} {g g' : TGs} (h : PGs X t g) (f : ∀ v σ H Q, g' v σ H Q → g v σ H Q) : PGs X t g' := ⟨fun pins s σ H v u Q I r q => h.run pins s σ H v u Q I r (f v σ H Q q)⟩
theorem mg_name {i : Nat} {x : Str} (hN : X.N.Nodup) (hi : X.N[i]? = some x) (hx : Loc X.env.scope x) (hf : X.fn x = true ∨ X.env.scope.names.lookup x = some .local := by first | exact .inl rfl | exact .inr rfl | assumption) : MG X (.Name x pos) (gVar i) :=
  leG (pg_name hN hi hx hf) fun v σ H Q ⟨w, e, S, φ, e', S', r, er, sr, h, q⟩ => by
    cases h
    exact q _ H φ .refl (er.set r) sr
theorem mgs_nil : PGs X [] (rGs X.K X.mg []) := leGs pgs_nil fun vs σ H Q ⟨ws, e, S, φ, r, er, sr, h, q⟩ => by
  have : ws = [] := List.length_eq_zero_iff.mp h
  subst this
  exact ⟨r, q σ H φ .refl er sr⟩
theorem mgs_cons {i : Nat} {is : List Nat} {x : Str} {es : List Expr} (hN : X.N.Nodup) (hi : X.N[i]? = some x) (hx : Loc X.env.scope x) (h2 : PGs X es (rGs X.K X.mg is)) (hf : X.fn x = true ∨ X.env.scope.names.lookup x = some .local := by first | exact .inl rfl | exact .inr rfl | assumption)
    (hs : (assignEach (.Name x pos :: es) X.env).map (·.2) = assign (.Name x pos) X.env :: (assignEach es X.env).map (·.2) := by rfl) : PGs X (.Name x pos :: es) (rGs X.K X.mg (i :: is)) :=
  leGs (pgs_cons (pg_name hN hi hx hf) h2 hs) fun vs σ H Q ⟨ws, e, S, φ, r, er, sr, h, q⟩ => by
    cases ws with
    | nil => cases h
    | cons w ws =>
      simp only [VRs] at r
      obtain ⟨v, r', rfl, r1, r2⟩ := r
      refine ⟨v, r', rfl, ws, e.set i (some w), S, φ, r2, er.set r1, sr, by simpa using h, fun σ' H' φ' x er' sr' => q σ' H' φ' x er' sr'⟩
theorem orG {t : Expr} {g g' : TG} (h : PG X t g) (h' : PG X t g') : PG X t (fun v σ H Q => g v σ H Q ∨ g' v σ H Q) := ⟨fun pins s σ H v u Q I r q => q.elim (h.run pins s σ H v u Q I r) (h'.run pins s σ H v u Q I r)⟩
/-- a, b, .. = a tuple or a list of that length -/
def gRow (is : List Nat) : GM := fun w e S => match w with
  | .tup ws => if ws.length = is.length then some (setVars is ws e, S) else none
  | .lst ws => if ws.length = is.length then some (setVars is ws e, S) else none
  | .ref a => match S[a]? with
    | some (.lst ws) => if ws.length = is.length then some (setVars is ws e, S) else none
    | _ => none
  | _ => none
theorem mg_row {es : List Expr} {k : Nat} {is : List Nat} (hc : X.calm = true) (h : PGs X es (rGs X.K X.mg is)) (hn : (assignEach es X.env).length = is.length := by rfl) (hst : (assignEach es X.env).findIdx? (·.1) = none := by rfl) : MG X (.Tuple es k pos) (gRow is) :=
  leG (orG (pg_tup hc h hn hst) (pg_lst hc h hn hst)) fun v σ H Q ⟨w, e, S, φ, e', S', r, er, sr, h, q⟩ => by
    cases w with
    | tup ws =>
      simp only [VR] at r
      obtain ⟨p, vs, rfl, t, rr⟩ := r
      simp only [gRow] at h
      split at h
      · rename_i hl
        cases h
        exact .inl ⟨p, vs, rfl, t.sq, by rw [← rr.length]; exact hl, ws, e, S, φ, rr, er, sr, hl, q⟩
      · cases h
    | lst ws =>
      simp only [VR] at r
      obtain ⟨p, vs, rfl, t, rr⟩ := r
      simp only [gRow] at h
      split at h
      · rename_i hl
        cases h
        exact .inr ⟨p, vs, rfl, t.sq, by rw [← rr.length]; exact hl, ws, e, S, φ, rr, er, sr, hl, q⟩
      · cases h
    | ref a =>
      simp only [VR] at r
      obtain ⟨p, rfl, t⟩ := r
      obtain ⟨ob, e1, o⟩ := sr.ob t
      simp only [gRow, e1] at h
      cases ob with
      | lst ws =>
        obtain ⟨vs, e2, rr⟩ := o
        dsimp only at h
        split at h
        · rename_i hl
          cases h
          exact .inr ⟨p, vs, rfl, SqL.of e2, by rw [← rr.length]; exact hl, ws, e, S, φ, rr, er, sr, hl, q⟩
        · cases h
      | _ => cases h
    | _ => cases h
theorem ms_asg {t : Expr} {g : GM} (ha : ME X Wx a A) (hg : MG X t g) (hs : swapsWithSole [t] a pos.line X.env = pure false := by rfl) (hw : swappedStores [t] a X.env = pure none := by rfl)
    (h1 : (assignEach [t] X.env).map (·.2) = [assign t X.env] := by rfl) : MS X Wx (.Assign [t] a pos) (sAsg g A) := leS (ps_asg ha hg hs hw h1) fun D σ H ⟨e, S, φ, er, sr, q⟩ => ⟨e, S, φ, er, sr, PostS.thn er q fun w S1 v H1 φ1 x1 s1 r1 q1 => by
  cases h : g w e S1 with
  | none => rw [h] at q1; exact q1.elim
  | some p => rw [h] at q1; exact ⟨w, e, S1, φ1, p.1, p.2, r1, er.mono x1, s1, h, q1⟩⟩
theorem ms_par {i j : Nat} {x y : Str} {px py pt : Pos} {kt k2 pt2} (hc : X.calm = true) (hN : X.N.Nodup) (hi : X.N[i]? = some x) (hj : X.N[j]? = some y) (hij : i ≠ j)
    (hx : X.env.scope.names.lookup x = some .local) (hy : X.env.scope.names.lookup y = some .local) (ha : ME X Wx a A) (hb : ME X Wx b B)
    (hw : swappedStores [.Tuple [.Name x px, .Name y py] kt pt] (.Tuple [a, b] k2 pt2) X.env = pure (some [x, y]))
    (hs : swapsWithSole [.Tuple [.Name x px, .Name y py] kt pt] (.Tuple [a, b] k2 pt2) pos.line X.env = pure false := by rfl)
    (s1 : starEach [a, b] X.env = (false, eval a X.env) :: starEach [b] X.env := by rfl) (s2 : starEach [b] X.env = (false, eval b X.env) :: starEach [] X.env := by rfl) :
    MS X Wx (.Assign [.Tuple [.Name x px, .Name y py] kt pt] (.Tuple [a, b] k2 pt2) pos) (sPar i j A B) := leS (ps_par hc hN hi hj hij hx hy (pa_cons ha (pa_cons hb pa_nil s2) s1) hw hs) fun D σ H ⟨e, S, φ, er, sr, q⟩ => by
  refine ⟨e, S, φ, er, sr, PostS.thn er q fun w S1 v H1 φ1 x1 s1 r1 q1 => ⟨e, S1, φ1, er.mono x1, s1, PostS.thn (er.mono x1) q1 fun w2 S2 v2 H2 φ2 x2 s2 r2 q2 => ?_⟩⟩
  exact ⟨v, v2, rfl, q2 _ H2 φ2 .refl ((((er.mono x1).mono x2).set (r1.mono x2)).set r2) s2⟩
/-- name op= e -/
theorem ms_aug {i : Nat} {x : Str} {op : Operator} {ti : TIp} {f : P2} {pos' : Pos} (hN : X.N.Nodup) (hi : X.N[i]? = some x) (hx : Loc X.env.scope x) (ha : ME X Wx a A) (ho : PIp X op ti) (hf : Snd2 X.K X.mg f (fun v u H Q => ti v u H Q)) (hfn : X.fn x = true ∨ X.env.scope.names.lookup x = some .local := by first | exact .inl rfl | exact .inr rfl | assumption) :
    MS X Wx (.AugAssign (.Name x pos') op a pos) (sAug i f A) := leS (ps_aug hN hi hx ha ho hfn) fun D σ H ⟨e, S, φ, er, sr, q⟩ => by
  simp only [sAug] at q
  split at q
  · rename_i w hw
    obtain ⟨v, e1, r⟩ := er.at_ i w hw
    refine ⟨v, e1, e, S, φ, er, sr, PostS.thn er q fun w1 S1 v1 H1 φ1 x1 s1 r1 q1 => ?_⟩
    cases h : f w w1 S1 with
    | none => rw [h] at q1; exact q1.elim
    | some p =>
      rw [h] at q1
      exact hf w w1 S1 p.1 p.2 H1 φ1 v v1 _ s1 (r.mono x1) r1 h fun z H2 φ2 x2 s2 r2 => q1 _ H2 φ2 x2 (((er.mono x1).mono x2).set r2) s2
  · exact q.elim
def Snd3 (K : PySem.W.Frag) (mg : Str → Option Value) (f : P3) (t : TSet) : Prop := ∀ x y v S S' H φ xo yo vo Q, SR K mg H φ S → VR K mg H φ x xo → VR K mg H φ y yo → VR K mg H φ v vo → f x y v S = some S' →
  (∀ H' φ', Ext H H' φ φ' → SR K mg H' φ' S' → Q H') → t xo yo vo H Q
theorem ms_setIx {o i : Expr} {O I : EM} {f : P3} {t : TSet} {tpos : Pos} (ho : ME X Wx o O) (hi : ME X Wx i I) (ha : ME X Wx a A) (hs : PSet X t) (hf : Snd3 X.K X.mg f t)
    (hss : ∀ v, assign (.Subscript o i tpos) X.env v = (do
      let ov ← holding [v] (eval o X.env)
      let iv ← holding [v, ov] (eval i X.env)
      standAt tpos
      holding [v, ov, iv] (setItem ov iv v)
      release [v, ov, iv] []) := by intro _; rfl)
    (h1 : swapsWithSole [.Subscript o i tpos] a pos.line X.env = pure false := by rfl) (hw : swappedStores [.Subscript o i tpos] a X.env = pure none := by rfl)
    (h2 : (assignEach [.Subscript o i tpos] X.env).map (·.2) = [assign (.Subscript o i tpos) X.env] := by rfl) : MS X Wx (.Assign [.Subscript o i tpos] a pos) (sSetIx f O I A) :=
  leS (ps_asg ha (pg_sub ho hi hs hss) h1 hw h2) fun D σ H ⟨e, S, φ, er, sr, q⟩ => ⟨e, S, φ, er, sr, PostS.thn er q fun w S1 v H1 φ1 x1 s1 r1 q1 => by
    refine ⟨e, S1, φ1, er.mono x1, s1, PostS.thn (er.mono x1) q1 fun wo S2 vo H2 φ2 x2 s2 r2 q2 => ?_⟩
    refine ⟨e, S2, φ2, (er.mono x1).mono x2, s2, PostS.thn ((er.mono x1).mono x2) q2 fun wi S3 vi H3 φ3 x3 s3 r3 q3 => ?_⟩
    cases h : f wo wi w S3 with
    | none => rw [h] at q3; exact q3.elim
    | some S4 =>
      rw [h] at q3
      exact hf wo wi w S3 S4 H3 φ3 vo vi v _ s3 (r2.mono x3) r3 ((r1.mono x2).mono x3) h fun H4 φ4 x4 s4 => q3 σ H4 φ4 x4 ((((er.mono x1).mono x2).mono x3).mono x4) s4⟩

/-! ### what is walked -/
def JR (K : PySem.W.Frag) (mg : Str → Option Value) (H0 : Hp) (φ0 : Fi) (J : ItM) (Jr : It) : Prop := ∀ i S H φ, Mon H0 H φ0 φ → SR K mg H φ S → match J i S with
  | none => True
  | some none => Jr.stop i H
  | some (some w) => Jr.go i H ∧ ∀ x H', Jr.yld i H x H' → H' = H ∧ VR K mg H φ w x
def rIt (K : PySem.W.Frag) (mg : Str → Option Value) (Wx : WX) (m : IM) : TI := fun σ H R => ∃ e S φ, ER K mg H φ e σ ∧ SR K mg H φ S ∧ PostR K mg Wx (JR K mg) σ H φ R (m e S)
abbrev MI (X : Cx) (Wx : WX) (tg iter : Expr) (m : IM) : Prop := PI X tg iter (rIt X.K X.mg Wx m)
theorem leI {X : Cx} {t x : Expr} {g g' : TI} (h : PI X t x g) (f : ∀ σ H R, g' σ H R → g σ H R) : PI X t x g' := ⟨fun pins s σ H R I q => h.run pins s σ H R I (f σ H R q)⟩
theorem jr_tup {K : PySem.W.Frag} {mg : Str → Option Value} {H : Hp} {φ : Fi} {p : Addr} {ws : List W} {vs : List V} (t : SqU K H p vs) (r : VRs K mg H φ ws vs) : JR K mg H φ (itT ws) (Itt K p) := fun i S H1 φ1 x s => by
  simp only [itT]
  cases e : ws[i]? with
  | none => exact ⟨vs, (x.rdT t).sq, List.getElem?_eq_none_iff.mp (r.none e)⟩
  | some w =>
    obtain ⟨v, e1, rv⟩ := r.get e
    refine ⟨⟨vs, v, (x.rdT t).sq, e1⟩, fun y H' ⟨eh, hy⟩ => ?_⟩
    subst eh
    have := hy vs (x.rdT t).sq
    rw [e1] at this; cases this
    exact ⟨rfl, rv.monoM x⟩
theorem jr_val {K : PySem.W.Frag} {mg : Str → Option Value} {H : Hp} {φ : Fi} {p : Addr} {ws : List W} {vs : List V} (t : SqW H φ p vs) (r : VRs K mg H φ ws vs) : JR K mg H φ (itT ws) (Itl K p) := fun i S H1 φ1 x s => by
  simp only [itT]
  cases e : ws[i]? with
  | none => exact ⟨vs, (x.rdW t).sq, List.getElem?_eq_none_iff.mp (r.none e)⟩
  | some w =>
    obtain ⟨v, e1, rv⟩ := r.get e
    refine ⟨⟨vs, v, (x.rdW t).sq, e1⟩, fun y H' ⟨eh, hy⟩ => ?_⟩
    subst eh
    have := hy vs (x.rdW t).sq
    rw [e1] at this; cases this
    exact ⟨rfl, rv.monoM x⟩
theorem jr_scr {K : PySem.W.Frag} {mg : Str → Option Value} {H : Hp} {φ : Fi} {p : Addr} {ns : List Int} (t : SqF K H p (ns.map V.int)) : JR K mg H φ (itT (ns.map W.int)) (Itl K p) := fun i S H1 φ1 x s => by
  simp only [itT]
  have r : VRs K mg H1 φ1 (ns.map W.int) (ns.map V.int) := VRs.ints ns
  cases e : (ns.map W.int)[i]? with
  | none => exact ⟨_, (x.rdF t).sq, List.getElem?_eq_none_iff.mp (r.none e)⟩
  | some w =>
    obtain ⟨v, e1, rv⟩ := r.get e
    refine ⟨⟨_, v, (x.rdF t).sq, e1⟩, fun y H' ⟨eh, hy⟩ => ?_⟩
    subst eh
    have := hy _ (x.rdF t).sq
    rw [e1] at this; cases this
    exact ⟨rfl, rv⟩
theorem jr_lst {K : PySem.W.Frag} {mg : Str → Option Value} {H : Hp} {φ : Fi} {p : Addr} {a : Nat} (t : φ.t[a]? = some p) : JR K mg H φ (itL a) (Itl K p) := fun i S H1 φ1 x s => by
  simp only [itL]
  cases e : S[a]? with
  | none => trivial
  | some ob =>
    cases ob with
    | lst ws =>
      obtain ⟨vs, e2, r⟩ := s.at_ a _ p e (x.get t)
      have q : SqL K H1 p vs := SqL.of e2
      dsimp only
      cases e3 : ws[i]? with
      | none => exact ⟨vs, q, List.getElem?_eq_none_iff.mp (r.none e3)⟩
      | some w =>
        obtain ⟨v, e1, rv⟩ := r.get e3
        refine ⟨⟨vs, v, q, e1⟩, fun y H' ⟨eh, hy⟩ => ?_⟩
        subst eh
        have := hy vs q
        rw [e1] at this; cases this
        exact ⟨rfl, rv⟩
    | _ => trivial
theorem jr_rng {K : PySem.W.Frag} {mg : Str → Option Value} {H : Hp} {φ : Fi} {lo : Int} {n : Nat} : JR K mg H φ (itR lo n) (Itr lo n) := fun i S H1 φ1 x s => by
  simp only [itR]
  by_cases h : i < n
  · rw [if_pos h]
    refine ⟨h, fun y H' ⟨eh, hy⟩ => ?_⟩
    subst eh; subst hy
    exact ⟨rfl, by simp [VR]⟩
  · rw [if_neg h]
    exact Nat.le_of_not_lt h
theorem jr_str {K : PySem.W.Frag} {mg : Str → Option Value} {H : Hp} {φ : Fi} {x : Str} : JR K mg H φ (itT (x.cps.toList.map chrW)) (Its x) := fun i S H1 φ1 x1 s => by
  simp only [itT, List.getElem?_map, Array.getElem?_toList]
  cases e : x.cps[i]? with
  | none => exact Array.getElem?_eq_none_iff.mp e
  | some c =>
    refine ⟨(Array.getElem?_eq_some_iff.mp e).1, fun y H' ⟨eh, c', e', hy⟩ => ?_⟩
    subst eh; subst hy
    rw [e] at e'; cases e'
    exact ⟨rfl, by simp [VR, chrW]⟩
/-- a value is walked: a tuple, a list, a text -/
theorem pi_any {tg l : Expr} {tl : TE} (hl : PE X l tl) : PI X tg l (fun σ H R => tl σ H fun x H1 => (∃ a, x = .ref a ∧ (∃ xs, SqL X.K H1 a xs) ∧ R (Itl X.K a) H1) ∨ (∃ a, x = .ref a ∧ (∃ xs, SqT X.K H1 a xs) ∧ R (Itt X.K a) H1) ∨ ∃ z, x = .str z ∧ R (Its z) H1) := by
  refine ⟨fun pins s σ H R I h => ?_⟩
  refine thn (hl.run pins s σ H _ I h) fun v s1 ⟨x, H1, I1, r1, q1⟩ => ?_
  rcases q1 with ⟨a, e, ⟨xs, hq⟩, q⟩ | ⟨a, e, ⟨xs, hq⟩, q⟩ | ⟨z, e, q⟩
  · subst e
    cases r1
    obtain ⟨its, rv, p, hz⟩ := I1.list hq
    refine wpAny_pyIter_list p.isList ?_
    refine ⟨s1.heap.objs.size, [s1.heap.objs.size], _, _, H1, rfl, I1.kept (t' := s1.toks) fun b o e => Heap.get?_push_of_some _ e, turn_list a _, ⟨_, Heap.get?_push_size _ rfl, rfl, rfl⟩, fun b hb => ?_, q⟩
    have e : b = s1.heap.objs.size := by simpa using hb
    subst e
    exact I1.fpOk (Nat.le_refl _) (I1.hok.fresh (Nat.le_refl _))
  · subst e
    cases r1
    obtain ⟨its, rv, p, hz⟩ := I1.tuple hq
    refine wpAny_pyIter_tuple (show s1.heap.IsTuple a its.toArray from p) ?_
    refine ⟨s1.heap.objs.size, [s1.heap.objs.size], _, _, H1, rfl, I1.kept (t' := s1.toks) fun b o e => Heap.get?_push_of_some _ e, turn_tuple a _, ⟨_, Heap.get?_push_size _ rfl, rfl, rfl⟩, fun b hb => ?_, q⟩
    have e : b = s1.heap.objs.size := by simpa using hb
    subst e
    exact I1.fpOk (Nat.le_refl _) (I1.hok.fresh (Nat.le_refl _))
  · subst e
    obtain ⟨t, rfl⟩ := r1
    cases ha : z.cps.all (· < 128)
    · exact wpAny_pyIter_wide ha (pi_one (tk := s1.toks) I1 _ (turn_str _ z t "str_iterator" (.inr rfl)) ⟨_, Heap.get?_push_size _ rfl, rfl, rfl⟩ q)
    · exact wpAny_pyIter_ascii ha (pi_one (tk := s1.toks) I1 _ (turn_str _ z t "str_ascii_iterator" (.inl rfl)) ⟨_, Heap.get?_push_size _ rfl, rfl, rfl⟩ q)
theorem mi_any {tg : Expr} (ha : ME X Wx a A) : MI X Wx tg a (iE A) := leI (pi_any ha) fun σ H R ⟨e, S, φ, er, sr, q⟩ => ⟨e, S, φ, er, sr, PostR.bind q fun w S1 v H1 φ1 x1 s1 r1 q1 => by
  cases w with
  | tup ws =>
    simp only [VR] at r1
    obtain ⟨p, vs, rfl, t, rr⟩ := r1
    exact .inr (.inl ⟨p, rfl, ⟨vs, t.sq⟩, q1 (Itt X.K p) H1 φ1 .refl s1 (jr_tup t rr)⟩)
  | scr ns =>
    simp only [VR] at r1
    obtain ⟨p, rfl, t⟩ := r1
    exact .inl ⟨p, rfl, ⟨_, t.sq⟩, q1 (Itl X.K p) H1 φ1 .refl s1 (jr_scr t)⟩
  | lst ws =>
    simp only [VR] at r1
    obtain ⟨p, vs, rfl, t, rr⟩ := r1
    exact .inl ⟨p, rfl, ⟨vs, t.sq⟩, q1 (Itl X.K p) H1 φ1 .refl s1 (jr_val t rr)⟩
  | str z => exact .inr (.inr ⟨z, r1, q1 (Its z) H1 φ1 .refl s1 jr_str⟩)
  | ref a =>
    simp only [VR] at r1
    obtain ⟨p, rfl, t⟩ := r1
    obtain ⟨ob, e1, o⟩ := s1.ob t
    simp only [iterW, e1] at q1
    cases ob with
    | lst ws =>
      obtain ⟨vs, e2, rr⟩ := o
      exact .inl ⟨p, rfl, ⟨vs, SqL.of e2⟩, q1 (Itl X.K p) H1 φ1 .refl s1 (jr_lst t)⟩
    | _ => exact q1.elim
  | _ => exact q1.elim⟩
theorem big_eq : big = 2 ^ 62 := big_def
theorem mi_range1 {tg : Expr} {p : Pos} (hg : Gl X "range") (hm : X.mg "range" = none) (ha : ME X Wx a A) (hs : starEach [a] X.env = [(false, eval a X.env)] := by rfl) : MI X Wx tg (.Call (.Name "range" p) [a] [] pos) (iRange1 A) :=
  leI (pi_range1 hg hm (pa_cons ha pa_nil hs) hs) fun σ H R ⟨e, S, φ, er, sr, q⟩ => ⟨e, S, φ, er, sr, PostR.bind q fun w S1 v H1 φ1 x1 s1 r1 q1 => by
    cases w with
    | int n =>
      cases (show v = .int n from r1)
      dsimp only at q1
      unfold rngJ at q1
      split at q1
      · rename_i hz
        rw [big_eq] at hz
        rw [Int.sub_zero] at q1
        exact ⟨n, rfl, hz.2.2.1, hz.2.2.2, q1 (Itr 0 n.toNat) H1 φ1 .refl s1 jr_rng⟩
      · exact q1.elim
    | _ => exact q1.elim⟩
theorem mi_range2 {tg : Expr} {p : Pos} (hg : Gl X "range") (hm : X.mg "range" = none) (ha : ME X Wx a A) (hb : ME X Wx b B) (hs : starEach [a, b] X.env = [(false, eval a X.env), (false, eval b X.env)] := by rfl) (hs2 : starEach [b] X.env = [(false, eval b X.env)] := by rfl) : MI X Wx tg (.Call (.Name "range" p) [a, b] [] pos) (iRange2 A B) :=
  leI (pi_range2 hg hm (pa_cons ha (pa_cons hb pa_nil hs2) (by rw [hs, hs2])) hs hs2) fun σ H R ⟨e, S, φ, er, sr, q⟩ => ⟨e, S, φ, er, sr, PostR.bind q fun w S1 v H1 φ1 x1 s1 r1 q1 => ⟨e, S1, φ1, er.mono x1, s1, q1.bind fun w2 S2 v2 H2 φ2 x2 s2 r2 q2 => by
    cases w with
    | int m =>
      cases w2 with
      | int n =>
        cases (show v = .int m from r1)
        cases (show v2 = .int n from r2)
        dsimp only at q2
        unfold rngJ at q2
        split at q2
        · rename_i hz
          rw [big_eq] at hz
          exact ⟨m, n, rfl, hz, q2 (Itr m (n - m).toNat) H2 φ2 .refl s2 jr_rng⟩
        · exact q2.elim
      | _ => exact q2.elim
    | _ => exact q2.elim⟩⟩

/-! ### for, while -/
theorem ms_for {tg iter : Expr} {body : List Stmt} {it : IM} {g : GM} (hp : PassesOwn (model X.prog X.w) X.A X.env X.xe) (hc : X.calm = true) (hi : MI X Wx tg iter it) (hg : MG X tg g) (hb : MSs X Wx body M)
    (hs : ∀ x, foldedSetIterable iter X.env x = pure x := by intro _; rfl) : MS X Wx (.For tg iter body [] pos) (sFor it g M) := leS (ps_for hp hc hi hg hb hs) fun D σ H ⟨e, S, φ, er, sr, q⟩ => by
  refine ⟨e, S, φ, er, sr, PostS.thn er q fun J S1 Jr H1 φ1 x1 s1 jr q1 => ?_⟩
  refine ⟨fun i m σ2 H2 => ∃ e2 S2 φ2, Ext H1 H2 φ1 φ2 ∧ ER X.K X.mg H2 φ2 e2 σ2 ∧ SR X.K X.mg H2 φ2 S2 ∧ PostS X.K X.mg Wx D H2 φ2 (forN J g M m i e2 S2), ⟨fuel, e, S1, φ1, .refl, er.mono x1, s1, q1⟩, ?_⟩
  rintro i m σ2 H2 ⟨e2, S2, φ2, x2, er2, s2, q2⟩
  cases m with
  | zero => exact q2.elim
  | succ m =>
    have j := jr i S2 H2 φ2 x2.mon s2
    simp only [forN] at q2
    cases hj : J i S2 with
    | none => simp only [hj] at q2; exact q2.elim
    | some o =>
      rw [hj] at j
      simp only [hj] at q2
      cases o with
      | none => exact .inl ⟨j, q2 σ2 H2 φ2 .refl er2 s2⟩
      | some w =>
        obtain ⟨jg, jy⟩ := j
        refine .inr ⟨jg, fun σ' H' => ∃ e3 S3 φ3, Ext H1 H' φ1 φ3 ∧ ER X.K X.mg H' φ3 e3 σ' ∧ SR X.K X.mg H' φ3 S3 ∧ PostS X.K X.mg Wx D H' φ3 (forN J g M m (i + 1) e3 S3), fun σ' H' h => ⟨m, Nat.lt_succ_self m, h⟩, fun y H3 hy => ?_⟩
        obtain ⟨eH3, r3⟩ := jy y H3 hy
        subst eH3
        have x3 : Ext H3 H3 φ2 φ2 := .refl
        have s3 := s2
        dsimp only at q2
        cases hgw : g w e2 S2 with
        | none => simp only [hgw] at q2; exact q2.elim
        | some p =>
          obtain ⟨e4, S4⟩ := p
          simp only [hgw] at q2
          refine ⟨w, e2, S2, φ2, e4, S4, r3, er2.mono x3, s3, hgw, fun σ5 H5 φ5 x5 er5 s5 => ⟨e4, S4, φ5, er5, s5, ?_⟩⟩
          have xx := (x2.trans x3).trans x5
          have q5 := PostS.ext (x3.trans x5) q2
          cases hM : M e4 S4 with
          | nx e6 S6 => rw [hM] at q5; exact fun σ' H' φ' x er' sr' => ⟨e6, S6, φ', xx.trans x, er', sr', PostS.ext x q5⟩
          | cnt e6 S6 => rw [hM] at q5; exact fun σ' H' φ' x er' sr' => ⟨e6, S6, φ', xx.trans x, er', sr', PostS.ext x q5⟩
          | brk e6 S6 => rw [hM] at q5; exact q5
          | ret w S6 => rw [hM] at q5; exact q5
          | exc z e6 S6 => rw [hM] at q5; exact q5
          | bad => rw [hM] at q5; exact q5
theorem ms_while {body : List Stmt} (hp : PassesOwn (model X.prog X.w) X.A X.env X.xe) (hc : MT X Wx c C) (hb : MSs X Wx body M) : MS X Wx (.While c body [] pos) (sWhile C M) := leS (ps_while hp hc hb) fun D σ H ⟨e, S, φ, er, sr, q⟩ => by
  refine ⟨fun m σ2 H2 => ∃ e2 S2 φ2, ER X.K X.mg H2 φ2 e2 σ2 ∧ SR X.K X.mg H2 φ2 S2 ∧ PostS X.K X.mg Wx D H2 φ2 (whileN C M m e2 S2), ⟨fuel, e, S, φ, er, sr, q⟩, ?_⟩
  rintro m σ2 H2 ⟨e2, S2, φ2, er2, s2, q2⟩
  cases m with
  | zero => exact q2.elim
  | succ m =>
    simp only [whileN] at q2
    refine ⟨e2, S2, φ2, er2, s2, ?_⟩
    cases hC : C e2 S2 with
    | bad => simp only [hC] at q2; exact q2
    | exc x S3 => simp only [hC] at q2; exact fun c d H3 φ3 x3 s3 r3 => q2 c d σ2 H3 φ3 x3 (er2.mono x3) s3 r3
    | ok k S3 =>
      simp only [hC] at q2
      intro v H3 φ3 x3 s3 r3
      subst r3
      have q3 := PostS.ext x3 q2
      cases k with
      | false =>
        rw [if_neg Bool.false_ne_true] at q3 ⊢
        exact q3 σ2 H3 φ3 .refl (er2.mono x3) s3
      | true =>
        rw [if_pos rfl] at q3 ⊢
        refine ⟨fun σ' H' => ∃ e4 S4 φ4, ER X.K X.mg H' φ4 e4 σ' ∧ SR X.K X.mg H' φ4 S4 ∧ PostS X.K X.mg Wx D H' φ4 (whileN C M m e4 S4), fun σ' H' h => ⟨m, Nat.lt_succ_self m, h⟩, e2, S3, φ3, er2.mono x3, s3, ?_⟩
        cases hM : M e2 S3 with
        | nx e6 S6 => rw [hM] at q3; exact fun σ' H' φ' x er' sr' => ⟨e6, S6, φ', er', sr', PostS.ext x q3⟩
        | cnt e6 S6 => rw [hM] at q3; exact fun σ' H' φ' x er' sr' => ⟨e6, S6, φ', er', sr', PostS.ext x q3⟩
        | brk e6 S6 => rw [hM] at q3; exact q3
        | ret w S6 => rw [hM] at q3; exact q3
        | exc z e6 S6 => rw [hM] at q3; exact q3
        | bad => rw [hM] at q3; exact q3

/-! ### comprehensions -/
theorem noexc_ok {α : Type} {r : R α} {a : α} {S : Store} (h : r.noexc = .ok a S) : r = .ok a S := by
  cases r with
  | ok b T => exact h
  | exc x T => cases h
  | bad => cases h
theorem wipe_get {σ : L2.St} {i : Nat} : ∀ {vs : List Nat}, (wipe σ vs)[i]? = if i ∈ vs then σ[i]?.map (fun _ => none) else σ[i]?
  | [] => by simp [wipe]
  | v :: vs => by
    unfold wipe
    rw [List.getElem?_set]
    by_cases hv : v = i
    · subst hv
      rw [if_pos rfl, if_pos List.mem_cons_self, wipe_length]
      by_cases hl : v < σ.length
      · rw [if_pos hl, List.getElem?_eq_getElem hl]; rfl
      · rw [if_neg hl, List.getElem?_eq_none (by omega)]; rfl
    · rw [if_neg hv, wipe_get (vs := vs)]
      by_cases hm : i ∈ vs
      · rw [if_pos hm, if_pos (List.mem_cons_of_mem _ hm)]
      · rw [if_neg hm, if_neg (by simp only [List.mem_cons, not_or]; exact ⟨fun e => hv e.symm, hm⟩)]
theorem wipe_wipe {σ : L2.St} {vs : List Nat} : wipe (wipe σ vs) vs = wipe σ vs := by
  apply List.ext_getElem?
  intro i
  rw [wipe_get, wipe_get]
  split
  · cases σ[i]? <;> rfl
  · rfl
theorem wipe_set {σ : L2.St} {vs : List Nat} {i : Nat} {x : Option V} (h : i ∈ vs) : wipe (σ.set i x) vs = wipe σ vs := by
  apply List.ext_getElem?
  intro j
  rw [wipe_get, wipe_get]
  by_cases e : i = j
  · subst e
    rw [if_pos h, if_pos h, List.getElem?_set]
    simp only [if_true]
    by_cases hl : i < σ.length
    · simp [hl]
    · simp [hl]
  · rw [List.getElem?_set_ne e]
/-- a target in a comprehension: its own names -/
def rGo (K : PySem.W.Frag) (mg : Str → Option Value) (own : List Nat) (g : GM) : TG := fun v σ H Q => ∃ w e S φ e' S', VR K mg H φ w v ∧ ER K mg H φ e σ ∧ SR K mg H φ S ∧ g w e S = some (e', S') ∧
  ∀ σ' H' φ', Ext H H' φ φ' → ER K mg H' φ' e' σ' → SR K mg H' φ' S' → wipe σ' own = wipe σ own → Q σ' H'
def rGos (K : PySem.W.Frag) (mg : Str → Option Value) (own is : List Nat) : TGs := fun vs σ H Q => ∃ ws e S φ, VRs K mg H φ ws vs ∧ ER K mg H φ e σ ∧ SR K mg H φ S ∧ ws.length = is.length ∧
  ∀ σ' H' φ', Ext H H' φ φ' → ER K mg H' φ' (setVars is ws e) σ' → SR K mg H' φ' S → wipe σ' own = wipe σ own → Q σ' H'
abbrev MGo (X : Cx) (own : List Nat) (t : Expr) (g : GM) : Prop := PG X t (rGo X.K X.mg own g)
theorem mgo_name {own : List Nat} {i : Nat} {x : Str} (ho : i ∈ own) (hN : X.N.Nodup) (hi : X.N[i]? = some x) (hx : Loc X.env.scope x) (hf : X.fn x = true ∨ X.env.scope.names.lookup x = some .local := by first | exact .inl rfl | exact .inr rfl | assumption) : MGo X own (.Name x pos) (gVar i) :=
  leG (pg_name hN hi hx hf) fun v σ H Q ⟨w, e, S, φ, e', S', r, er, sr, h, q⟩ => by
    cases h
    exact q _ H φ .refl (er.set r) sr (wipe_set ho)
theorem mgos_nil {own : List Nat} : PGs X [] (rGos X.K X.mg own []) := leGs pgs_nil fun vs σ H Q ⟨ws, e, S, φ, r, er, sr, h, q⟩ => by
  have : ws = [] := List.length_eq_zero_iff.mp h
  subst this
  exact ⟨r, q σ H φ .refl er sr rfl⟩
theorem mgos_cons {own : List Nat} {i : Nat} {is : List Nat} {x : Str} {es : List Expr} (ho : i ∈ own) (hN : X.N.Nodup) (hi : X.N[i]? = some x) (hx : Loc X.env.scope x) (h2 : PGs X es (rGos X.K X.mg own is)) (hf : X.fn x = true ∨ X.env.scope.names.lookup x = some .local := by first | exact .inl rfl | exact .inr rfl | assumption)
    (hs : (assignEach (.Name x pos :: es) X.env).map (·.2) = assign (.Name x pos) X.env :: (assignEach es X.env).map (·.2) := by rfl) : PGs X (.Name x pos :: es) (rGos X.K X.mg own (i :: is)) :=
  leGs (pgs_cons (pg_name hN hi hx hf) h2 hs) fun vs σ H Q ⟨ws, e, S, φ, r, er, sr, h, q⟩ => by
    cases ws with
    | nil => cases h
    | cons w ws =>
      simp only [VRs] at r
      obtain ⟨v, r', rfl, r1, r2⟩ := r
      refine ⟨v, r', rfl, ws, e.set i (some w), S, φ, r2, er.set r1, sr, by simpa using h, fun σ' H' φ' x er' sr' hw => q σ' H' φ' x er' sr' (hw.trans (wipe_set ho))⟩
theorem mgo_row {own : List Nat} {es : List Expr} {k : Nat} {is : List Nat} (hc : X.calm = true) (h : PGs X es (rGos X.K X.mg own is)) (hn : (assignEach es X.env).length = is.length := by rfl) (hst : (assignEach es X.env).findIdx? (·.1) = none := by rfl) : MGo X own (.Tuple es k pos) (gRow is) :=
  leG (orG (pg_tup hc h hn hst) (pg_lst hc h hn hst)) fun v σ H Q ⟨w, e, S, φ, e', S', r, er, sr, h, q⟩ => by
    cases w with
    | tup ws =>
      simp only [VR] at r
      obtain ⟨p, vs, rfl, t, rr⟩ := r
      simp only [gRow] at h
      split at h
      · rename_i hl
        cases h
        exact .inl ⟨p, vs, rfl, t.sq, by rw [← rr.length]; exact hl, ws, e, S, φ, rr, er, sr, hl, q⟩
      · cases h
    | lst ws =>
      simp only [VR] at r
      obtain ⟨p, vs, rfl, t, rr⟩ := r
      simp only [gRow] at h
      split at h
      · rename_i hl
        cases h
        exact .inr ⟨p, vs, rfl, t.sq, by rw [← rr.length]; exact hl, ws, e, S, φ, rr, er, sr, hl, q⟩
      · cases h
    | ref a =>
      simp only [VR] at r
      obtain ⟨p, rfl, t⟩ := r
      obtain ⟨ob, e1, o⟩ := sr.ob t
      simp only [gRow, e1] at h
      cases ob with
      | lst ws =>
        obtain ⟨vs, e2, rr⟩ := o
        dsimp only at h
        split at h
        · rename_i hl
          cases h
          exact .inr ⟨p, vs, rfl, SqL.of e2, by rw [← rr.length]; exact hl, ws, e, S, φ, rr, er, sr, hl, q⟩
        · cases h
      | _ => cases h
    | _ => cases h
abbrev NoX : WX := fun _ _ _ _ => False
/-- what the loop of a comprehension keeps: D is hidden -/
theorem Ext.hideTrans {H1 H2 H3 : Hp} {φ1 φ2 φ3 : Fi} {D : Addr} (x : Ext H1 H2 (Fi.hide φ1 D) φ2) (y : Ext H2 H3 φ2 φ3) : Ext H1 H3 (Fi.hide φ1 D) φ3 := x.trans y
theorem lc_read {K : PySem.W.Frag} {mg : Str → Option Value} {it : IM} {own : List Nat} {g : GM} {t : TM} {a : EM} {σ : L2.St} {H : Hp} {Q : VK} {m : Bool} (h : rE K mg Wx (eLc m it own g t a) σ H Q) :
    tLc (rIt K mg Wx it) (rGo K mg own g) (rT K mg NoX t) (rE K mg NoX a) own σ H Q := by
  obtain ⟨e, S, φ, er, sr, q⟩ := h
  refine ⟨e, S, φ, er, sr, PostR.bind q fun J S1 Jr H1 φ1 x1 s1 jr q1 => ?_⟩
  intro D hD
  cases hl : lcN J g t a (wipeE e own) fuel 0 [] S1 with
  | bad => rw [hl] at q1; exact q1.elim
  | exc _ _ => rw [hl] at q1; exact q1.elim
  | ok xs S9 =>
    rw [hl] at q1
    obtain ⟨x0, s0⟩ := s1.hideNew (o := .lst []) hD
    have nD := s1.notin hD
    -- what the loop keeps of the heap behind the iterator: as Ext, but for D
    let Kp : Hp → Fi → Prop := fun H2 φ2 => (∃ l, φ2.t = φ1.t ++ l) ∧ φ2.h = D :: φ1.h ∧ (∀ p o, H1 p = some o → p ∉ φ1.t → H2 p = some o) ∧ (∀ p, p ∈ φ2.t → p ∉ φ1.t → H1 p = none ∧ p ≠ D) ∧ (∀ p ys, H1 p = some (.tup ys) → H2 p = some (.tup ys)) ∧ ∀ p o u, H1 p = some (.frz o u) → H2 p = some (.frz o u)
    have kp0 : Kp (upd H1 D (.lst [])) (φ1.hide D) := ⟨⟨[], by simp [Fi.hide]⟩, rfl, fun p o h _ => by rw [upd_ne (ne_of_none h hD)]; exact h, fun p h n => absurd h n, fun p ys h => by rw [upd_ne (ne_of_none h hD)]; exact h, fun p o u h => by rw [upd_ne (ne_of_none h hD)]; exact h⟩
    have kpx : ∀ {H2 H3 φ2 φ3}, Kp H2 φ2 → H2 D ≠ none → Ext H2 H3 φ2 φ3 → Kp H3 φ3 := by
      rintro H2 H3 φ2 φ3 ⟨⟨l, e1⟩, e2, e3, e4, e5, e6⟩ hd y
      obtain ⟨l', e1'⟩ := y.pre
      refine ⟨⟨l ++ l', by rw [e1', e1, List.append_assoc]⟩, y.hid.trans e2, fun p o hp n => ?_, fun p hp n => ?_, fun p ys hp => y.tup _ _ (e5 p ys hp), fun p o u hp => y.frz _ _ _ (e6 p o u hp)⟩
      · refine y.fr p o (e3 p o hp n) fun z => ?_
        have := (e4 p z n).1
        rw [hp] at this; cases this
      · by_cases hp2 : p ∈ φ2.t
        · exact e4 p hp2 n
        · have z := y.new p hp hp2
          refine ⟨?_, fun e => ?_⟩
          · cases q : H1 p with
            | none => rfl
            | some o => rw [e3 p o q n] at z; cases z
          · subst e; exact hd z
    -- values of the iterator's heap are values now
    have kpm : ∀ {H2 φ2}, Kp H2 φ2 → Ext H1 H2 φ1 ⟨φ2.t, φ1.h⟩ := by
      rintro H2 φ2 ⟨e1, e2, e3, e4, e5, e6⟩
      exact ⟨e1, rfl, e3, fun p hp n => (e4 p hp n).1, e5, e6⟩
    have hideV : ∀ {H2 φ2}, Kp H2 φ2 → H2 D ≠ none → Mon H1 H2 φ1 φ2 := by
      rintro H2 φ2 ⟨e1, e2, e3, e4, e5, e6⟩ hd
      refine ⟨e1, fun p o hp n => ⟨e3 p o hp n.1, fun z => ?_, fun z => ?_⟩, e5, e6⟩
      · have := (e4 p z n.1).1
        rw [hp] at this; cases this
      · rw [e2] at z
        rcases List.mem_cons.mp z with z | z
        · subst z; rw [hD] at hp; cases hp
        · exact n.2 z
    refine ⟨fun i m H2 => ∃ acc vs S2 φ2, Kp H2 φ2 ∧ H2 D = some (.lst vs) ∧ VRs K mg H2 φ2 acc vs ∧ SR K mg H2 φ2 S2 ∧ lcN J g t a (wipeE e own) m i acc S2 = .ok xs S9, ⟨fuel, [], [], S1, φ1.hide D, kp0, upd_same, .nil, s0, hl⟩, ?_⟩
    rintro i m H2 ⟨acc, vs, S2, φ2, k2, hD2, ra, s2, h2⟩
    have hs : φ2 = Fi.hide ⟨φ2.t, φ1.h⟩ D := by
      obtain ⟨t2, h2'⟩ := φ2
      have : h2' = D :: φ1.h := k2.2.1
      subst this; rfl
    have nDt : D ∉ φ2.t := (s2.hd D (by rw [k2.2.1]; exact List.mem_cons_self)).1
    have nd2 : H2 D ≠ none := by rw [hD2]; exact fun z => nomatch z
    have s2' : SR K mg H2 (Fi.hide ⟨φ2.t, φ1.h⟩ D) S2 := by rw [← hs]; exact s2
    obtain ⟨moS, s2v⟩ := s2'.show_
    cases m with
    | zero => cases h2
    | succ m =>
      have j := jr i S2 H2 φ2 (hideV k2 nd2) s2
      simp only [lcN] at h2
      cases hj : J i S2 with
      | none => simp only [hj] at h2; cases h2
      | some o =>
        rw [hj] at j
        simp only [hj] at h2
        cases o with
        | none =>
          injection h2 with e8 e9
          subst e8 e9
          refine .inl ⟨j, ?_⟩
          have ra' : VRs K mg H2 (Fi.hide ⟨φ2.t, φ1.h⟩ D) acc vs := by rw [← hs]; exact ra
          cases hm : ‹Bool› with
          | false =>
            subst hm
            refine q1 (.ref D) H2 ⟨φ2.t, φ1.h⟩ (kpm k2) s2v ?_
            simp only [mkL_f, VR]
            exact ⟨D, vs, rfl, ⟨⟨nDt, nD.2⟩, hD2⟩, ra'.monoM moS⟩
          | true =>
            subst hm
            have moA : Mon H2 H2 (Fi.hide ⟨φ2.t, φ1.h⟩ D) ⟨φ2.t ++ [D], φ1.h⟩ := ⟨⟨[D], rfl⟩, fun p u h n => ⟨h, fun z => by
              rcases List.mem_append.mp z with z | z
              · exact n.1 z
              · exact n.2 (by rw [List.mem_singleton.mp z]; exact List.mem_cons_self), fun z => n.2 (List.mem_cons_of_mem _ z)⟩, fun _ _ h => h, fun _ _ _ h => h⟩
            obtain ⟨_, s3, l3⟩ := s2'.adopt (ob := .lst acc) ⟨vs, hD2, ra'.monoM moA⟩ nD.2
            have kx := kpm k2
            obtain ⟨l, el⟩ := kx.pre
            refine q1 (.ref D) H2 ⟨φ2.t ++ [D], φ1.h⟩ ⟨⟨l ++ [D], by show φ2.t ++ [D] = _; rw [show φ2.t = φ1.t ++ l from el, List.append_assoc]⟩, rfl, kx.fr, fun p hp n => ?_, kx.tup, kx.frz⟩ s3 (by simp only [mkL_t, VR]; exact ⟨D, rfl, l3⟩)
            rcases List.mem_append.mp hp with z | z
            · exact kx.new p z n
            · have : p = D := by simpa using z
              rw [this]; exact hD
        | some w =>
          obtain ⟨jg, jy⟩ := j
          dsimp only at h2
          refine .inr ⟨jg, fun H' => ∃ acc vs S2 φ2, Kp H' φ2 ∧ H' D = some (.lst vs) ∧ VRs K mg H' φ2 acc vs ∧ SR K mg H' φ2 S2 ∧ lcN J g t a (wipeE e own) m (i + 1) acc S2 = .ok xs S9, fun H' h => ⟨m, Nat.lt_succ_self m, h⟩, fun y H3 hy => ?_⟩
          obtain ⟨eH3, r3⟩ := jy y H3 hy
          subst eH3
          cases hgw : g w (wipeE e own) S2 with
          | none => simp only [hgw] at h2; cases h2
          | some p =>
            obtain ⟨e4, S4⟩ := p
            simp only [hgw] at h2
            have er3 : ER K mg H3 φ2 (wipeE e own) (wipe σ own) := (ER.monoM (hideV k2 nd2) (er.mono x1)).wipe own
            refine ⟨w, wipeE e own, S2, φ2, e4, S4, r3, er3, s2, hgw, fun σ5 H5 φ5 x5 er5 s5 hw5 => ⟨hw5.trans wipe_wipe, e4, S4, φ5, er5, s5, ?_⟩⟩
            have k5 := kpx k2 nd2 x5
            obtain ⟨d5, nd5⟩ := x5.beside hD2 nDt
            cases ht : t e4 S4 with
            | bad => simp only [ht, R.bind_bad] at h2; cases h2
            | exc _ _ => simp only [ht, R.bind_exc] at h2; cases h2
            | ok k S6 =>
              simp only [ht, R.bind_ok] at h2
              intro k' H6 φ6 x6 s6 ek
              subst ek
              have k6 := kpx k5 (by rw [d5]; exact fun z => nomatch z) x6
              obtain ⟨d6, nd6⟩ := x6.beside d5 nd5
              cases k with
              | false =>
                rw [if_neg Bool.false_ne_true] at h2 ⊢
                exact ⟨acc, vs, S6, φ6, k6, d6, (ra.mono x5).mono x6, s6, h2⟩
              | true =>
                rw [if_pos rfl] at h2 ⊢
                refine ⟨e4, S6, φ6, er5.mono x6, s6, ?_⟩
                cases ha : a e4 S6 with
                | bad => simp only [ha, R.bind_bad] at h2; cases h2
                | exc _ _ => simp only [ha, R.bind_exc] at h2; cases h2
                | ok z S7 =>
                  simp only [ha, R.bind_ok] at h2
                  intro zv H7 φ7 x7 s7 rz
                  have k7 := kpx k6 (by rw [d6]; exact fun z => nomatch z) x7
                  obtain ⟨d7, nd7⟩ := x7.beside d6 nd6
                  have ra7 := ((ra.mono x5).mono x6).mono x7
                  split at h2
                  · rename_i hz
                    have hs7 : φ7 = Fi.hide ⟨φ7.t, φ1.h⟩ D := by
                      obtain ⟨t7, h7'⟩ := φ7
                      have : h7' = D :: φ1.h := k7.2.1
                      subst this; rfl
                    have s7' : SR K mg H7 (Fi.hide ⟨φ7.t, φ1.h⟩ D) S7 := by rw [← hs7]; exact s7
                    obtain ⟨mo, s8⟩ := s7'.hideSet (o' := .lst (vs ++ [zv])) d7 rfl
                    rw [← hs7] at mo s8
                    refine ⟨vs, d7, by rw [← ra7.length]; exact hz, acc ++ [z], vs ++ [zv], S7, φ7, ?_, upd_same, (ra7.append (.one rz)).monoM mo, s8, h2⟩
                    obtain ⟨c1, c2, c3, c4, c5, c6⟩ := k7
                    refine ⟨c1, c2, fun p o hp n => ?_, c4, fun p ys hp => mo.tup _ _ (c5 p ys hp), fun p o u hp => mo.frz _ _ _ (c6 p o u hp)⟩
                    have hne : p ≠ D := fun z => by rw [z, hD] at hp; cases hp
                    rw [upd_ne hne]
                    exact c3 p o hp n
                  · cases h2
variable {elt tg iter : Expr} {ifs : List Expr} {scope : Scope} {own : List (Str × Nat)} {it : IM} {g : GM} {T : TM}
abbrev MTs (X : Cx) (Wx : WX) (ifs : List Expr) (t : TM) : Prop := PTs X ifs (rT X.K X.mg Wx t)
theorem mts_nil : MTs X Wx [] tYesM := ⟨fun pins s σ H Q I ⟨e, S, φ, er, sr, q⟩ => pts_nil.run pins s σ H Q I (show Q true H from q.ok_at sr rfl)⟩
theorem mts_one (h : MT X Wx c T) : MTs X Wx [c] T := pts_one h
/-- the context of a comprehension's block -/
abbrev Blk (X : Cx) (scope : Scope) (P : Cx → Prop) : Prop := ∀ (s : Shared) (H : Hp) (C : Addr) (cl : List (Str × Addr)) (fp : List Addr), P (X.blk s H scope (compEnvC scope cl C X.env) fp)
abbrev ownI (own : List (Str × Nat)) : List Nat := own.map (·.2)
theorem m_lc {m : Bool} (hc : X.calm = true) (hN : X.N.Nodup) (hi : MI X Wx tg iter it) (ok : BlkOk X.N X.env.scope scope own) (hg : Blk X scope fun Y => MGo Y (ownI own) tg g) (ht : Blk X scope fun Y => MTs Y NoX ifs T) (he : Blk X scope fun Y => ME Y NoX elt A)
    (hs : ∀ x, foldedSetIterable iter X.env x = pure x := by intro _; rfl) : ME X Wx (.ListComp elt [⟨tg, iter, ifs, 0⟩] scope pos) (eLc m it (ownI own) g T A) :=
  leE (pe_lc (own := own) (wi := rIt X.K X.mg Wx it) (g := rGo X.K X.mg (ownI own) g) (tt := rT X.K X.mg NoX T) (te := rE X.K X.mg NoX A) hc hN hi ok (fun s H C cl fp => hg s H C cl fp) (fun s H C cl fp => ht s H C cl fp) (fun s H C cl fp => he s H C cl fp) hs) fun σ H Q h => lc_read h
theorem ms_setLc {m : Bool} {i : Nat} {y : Str} {py spos : Pos} (hc : X.calm = true) (hN : X.N.Nodup) (hy : X.N[i]? = some y) (hyl : X.env.scope.names.lookup y = some .local)
    (hsw : swapsWith (.ListComp elt [⟨tg, iter, ifs, 0⟩] scope pos) (some (.Name y py)) spos.line X.env = pure true) (hi : MI X Wx tg iter it) (ok : BlkOk X.N X.env.scope scope own) (hg : Blk X scope fun Y => MGo Y (ownI own) tg g) (ht : Blk X scope fun Y => MTs Y NoX ifs T) (he : Blk X scope fun Y => ME Y NoX elt A)
    (hs : ∀ x, foldedSetIterable iter X.env x = pure x := by intro _; rfl) : MS X Wx (.Assign [.Name y py] (.ListComp elt [⟨tg, iter, ifs, 0⟩] scope pos) spos) (sSet i (eLc m it (ownI own) g T A)) :=
  leS (ps_setLc (own := own) (i := i) (wi := rIt X.K X.mg Wx it) (g := rGo X.K X.mg (ownI own) g) (tt := rT X.K X.mg NoX T) (te := rE X.K X.mg NoX A) hc hN hy hyl hsw hi ok (fun s H C cl fp => hg s H C cl fp) (fun s H C cl fp => ht s H C cl fp) (fun s H C cl fp => he s H C cl fp) hs)
    fun D σ H ⟨e, S, φ, er, sr, q⟩ => lc_read (Q := fun x H1 => gName i x σ H1 D.nx) ⟨e, S, φ, er, sr, PostS.thn er q fun w S1 v H1 φ1 x1 s1 r1 q1 => q1 _ H1 φ1 .refl ((er.mono x1).set r1) s1⟩
end
end Sh

set_option Elab.async false
set_option linter.all false
set_option maxRecDepth 100000
set_option maxHeartbeats 2000000
/-! ShP: the primitives and their soundness. -/
namespace Sh
open PySem PySem.Spec PyProof.Rows L2

/-! ### the model's primitives -/
/-- the module's dicts with text keys -/
abbrev GD := Str → Option (List (Str × W))
def scV : W → Option V
  | .non => some .non
  | .bl b => some (.bl b)
  | .int i => some (.int i)
  | .str x => some (.str x)
  | _ => none
def scVs : List W → Option (List V)
  | [] => some []
  | w :: ws => match scV w, scVs ws with
    | some v, some vs => some (v :: vs)
    | _, _ => none
def keyW : W → Option Key
  | .int i => some (.inl i)
  | .str x => some (.inr x)
  | _ => none
def valW (kvs : List (Key × W)) (k : Key) : Option W := (kvs.find? fun kv => decide (kv.1 = k)).map (·.2)
def putW (kvs : List (Key × W)) (k : Key) (w : W) : List (Key × W) :=
  if kvs.any (fun kv => decide (kv.1 = k)) then kvs.map fun kv => if kv.1 = k then (kv.1, w) else kv else kvs ++ [(k, w)]
/-- a list's items; a dict's entries -/
def lsW (w : W) (S : Store) : Option (List W) := match w with
  | .lst xs => some xs
  | .ref a => match S[a]? with
    | some (.lst xs) => some xs
    | _ => none
  | _ => none
def dcW (w : W) (S : Store) : Option (List (Key × W)) := match w with
  | .dic ks ws => some (ks.zip ws)
  | .ref a => match S[a]? with
    | some (.dic kvs) => some kvs
    | _ => none
  | _ => none
@[simp] theorem lsW_lst (xs : List W) (S : Store) : lsW (.lst xs) S = some xs := rfl
@[simp] theorem dcW_dic (ks : List Key) (ws : List W) (S : Store) : dcW (.dic ks ws) S = some (ks.zip ws) := rfl
def addW (m : Bool) : P2 := fun x y S => match x, y with
  | .int i, .int j => some (.int (i + j), S)
  | .str i, .str j => if i.length + j.length ≤ sizeLine then some (.str (i ++ j), S) else none
  | .tup xs, .tup ys => if xs.length + ys.length ≤ sizeLine then some (.tup (xs ++ ys), S) else none
  | x, y => match lsW x S, lsW y S with
    | some xs, some ys => if xs.length + ys.length ≤ sizeLine then some (mkL m (xs ++ ys) S) else none
    | _, _ => none
def subW : P2 := fun x y S => match x, y with
  | .int i, .int j => some (.int (i - j), S)
  | _, _ => none
def mulW (m : Bool) : P2 := fun x y S => match x, y with
  | .int i, .int j => if (-(2 ^ 64) < i ∧ i < 2 ^ 64) ∨ (-(2 ^ 64) < j ∧ j < 2 ^ 64) then some (.int (i * j), S) else none
  | .str z, .int k => if z.length ≤ 1000 ∧ -(2 ^ 63) ≤ k ∧ k ≤ 1000 then some (.str (Txt.mul z k), S) else none
  | x, .int k => match lsW x S with
    | some xs => if -(2 ^ 63) ≤ k ∧ k < 2 ^ 63 ∧ xs.length * k.toNat ≤ sizeLine then some (mkL m (List.replicate k.toNat xs).flatten S) else none
    | _ => none
  | _, _ => none
def fdivW : P2 := fun x y S => match x, y with
  | .int i, .int j => if 0 < j ∧ j < 1073741824 then some (.int (i / j), S) else none
  | _, _ => none
def modW : P2 := fun x y S => match x, y with
  | .int i, .int j => if 0 < j then some (.int (i % j), S) else none
  | _, _ => none
def powW : P2 := fun x y S => match x, y with
  | .int i, .int j => if 0 ≤ j ∧ j ≤ 1000000 ∧ i.natAbs < 2 ^ 64 then some (.int (i ^ j.toNat), S) else none
  | _, _ => none
def negW : P1 := fun x S => match x with
  | .int i => some (.int (-i), S)
  | _ => none
def eqW : P2 := fun x y S => match scV x, scV y with
  | some a, some b => if scal a b then some (.bl (decide (a = b)), S) else none
  | _, _ => none
def neW : P2 := fun x y S => match scV x, scV y with
  | some a, some b => if scal a b then some (.bl (!decide (a = b)), S) else none
  | _, _ => none
def cmpW (p : Int → Int → Bool) : P2 := fun x y S => match x, y with
  | .int i, .int j => some (.bl (p i j), S)
  | _, _ => none
def ltW : P2 := cmpW fun i j => decide (i < j)
def leW : P2 := cmpW fun i j => decide (i ≤ j)
def gtW : P2 := cmpW fun i j => decide (j < i)
def geW : P2 := cmpW fun i j => decide (j ≤ i)
def isNon : W → Bool
  | .non => true
  | _ => false
def isNW : P2 := fun x y S => match y with
  | .non => some (.bl (isNon x), S)
  | _ => none
def notNW : P2 := fun x y S => match y with
  | .non => some (.bl (!isNon x), S)
  | _ => none
/-- x in y -/
def inB (G : GD) (x y : W) (S : Store) : Option Bool := match y with
  | .tup ys => match scV x, scVs ys with
    | some a, some vs => some (inV a vs)
    | _, _ => none
  | .str z => match x with
    | .str s => if s.cps.size = 1 then some (decide (s.cps.getD 0 0 ∈ z.cps.toList)) else none
    | _ => none
  | .glo g => match G g, x with
    | some kvs, .str s => some (kvs.lookup s).isSome
    | _, _ => none
  | y => match lsW y S with
    | some ys => match scV x, scVs ys with
      | some a, some vs => some (inV a vs)
      | _, _ => none
    | none => match dcW y S with
      | some kvs => match keyW x with
        | some k => some (valW kvs k).isSome
        | none => none
      | none => none
def inW (G : GD) : P2 := fun x y S => (inB G x y S).map fun b => (.bl b, S)
def notInW (G : GD) : P2 := fun x y S => (inB G x y S).map fun b => (.bl (!b), S)
/-- x[y] -/
def getW (G : GD) : P2 := fun x y S => match x with
  | .tup xs => match y with
    | .int i => (atI xs i).map fun w => (w, S)
    | _ => none
  | .scr ns => match y with
    | .int i => (atI ns i).map fun n => (.int n, S)
    | _ => none
  | .str z => match y with
    | .int i => if z.length ≤ sizeLine then (atI z.cps.toList i).map fun c => (chrW c, S) else none
    | _ => none
  | .glo g => match G g, y with
    | some kvs, .str s => (kvs.lookup s).map fun w => (w, S)
    | _, _ => none
  | x => match lsW x S with
    | some xs => match y with
      | .int i => (atI xs i).map fun w => (w, S)
      | _ => none
    | none => match dcW x S with
      | some kvs => match keyW y with
        | some k => (valW kvs k).map fun w => (w, S)
        | none => none
      | none => none
/-- x[y] = v -/
def setW : P3 := fun x y v S => match x with
  | .ref a => match S[a]? with
    | some (.lst xs) => match y with
      | .int i => (ixN xs.length i).map fun j => S.set a (.lst (xs.set j v))
      | _ => none
    | some (.dic kvs) => match keyW y with
      | some k => if kvs.length < sizeLine then some (S.set a (.dic (putW kvs k v))) else none
      | none => none
    | _ => none
  | _ => none

/-! ### the module's dicts -/
def GdOk (K : PySem.W.Frag) (mg : Str → Option Value) (w : World) (G : GD) : Prop := ∀ x kvs, G x = some kvs → ∃ d es n, mg x = some (.ref d) ∧ KDict K w d es n ∧ ∀ z : Str, match kvs.lookup z with
  | some wv => ∃ u0 v0, PySem.W.nsIn K d z = some (some u0) ∧ RelV v0 u0 ∧ ∀ H φ, VR K mg H φ wv v0
  | none => PySem.W.nsIn K d z = some none

/-! ### soundness -/
section
variable {K : PySem.W.Frag} {mg : Str → Option Value} {H : Hp} {φ : Fi} {S : Store}
theorem scV_ok {w : W} {v a : V} (r : VR K mg H φ w v) (h : scV w = some a) : v = a := by
  cases w with
  | non => cases h; exact r
  | bl b => cases h; exact r
  | int i => cases h; exact r
  | str x => cases h; exact r
  | _ => cases h
theorem scV_flat {w : W} {a : V} (h : scV w = some a) : flatV a = true := by
  cases w with
  | non => cases h; rfl
  | bl b => cases h; rfl
  | int i => cases h; rfl
  | str x => cases h; rfl
  | _ => cases h
theorem scVs_ok : ∀ {ws : List W} {vs as : List V}, VRs K mg H φ ws vs → scVs ws = some as → vs = as ∧ as.all flatV = true
  | [], vs, as, r, h => by cases h; simp only [VRs] at r; exact ⟨r, rfl⟩
  | w :: ws, vs, as, r, h => by
    simp only [VRs] at r
    obtain ⟨v, r', rfl, r1, r2⟩ := r
    simp only [scVs] at h
    cases h1 : scV w with
    | none => rw [h1] at h; cases h
    | some a =>
      cases h2 : scVs ws with
      | none => rw [h1, h2] at h; cases h
      | some bs =>
        rw [h1, h2] at h
        cases h
        obtain ⟨e1, e2⟩ := scVs_ok r2 h2
        exact ⟨by rw [scV_ok r1 h1, e1], by rw [List.all_cons, scV_flat h1, e2]; rfl⟩
theorem keyW_ok {w : W} {v : V} {k : Key} (r : VR K mg H φ w v) (h : keyW w = some k) : v = kV k := by
  cases w with
  | int i => cases h; exact r
  | str x => cases h; exact r
  | _ => cases h
theorem valW_ok : ∀ {kvs : List (Key × W)} {us : List (Key × V)} {k : Key}, KVR K mg H φ kvs us → match valW kvs k with
    | some w => ∃ v, valV us k = some v ∧ VR K mg H φ w v
    | none => valV us k = none
  | [], us, k, h => by
    obtain ⟨h1, h2⟩ := h
    have : us = [] := by simpa using h1.symm
    subst this
    exact valV_nil
  | (j, w) :: kvs, us, k, h => by
    obtain ⟨h1, h2⟩ := h
    cases us with
    | nil => cases h1
    | cons p us =>
      obtain ⟨j', v⟩ := p
      simp only [List.map_cons, List.cons.injEq] at h1
      obtain ⟨e1, e2⟩ := h1
      subst e1
      have h2' : VRs K mg H φ (w :: kvs.map (·.2)) (v :: us.map (·.2)) := h2
      simp only [VRs] at h2'
      obtain ⟨v', r', e3, r1, r2⟩ := h2'
      cases e3
      by_cases hj : j = k
      · subst hj
        have e4 : valW ((j, w) :: kvs) j = some w := by simp [valW, List.find?_cons]
        rw [e4]
        exact ⟨v, valV_pos rfl, r1⟩
      · have e4 : valW ((j, w) :: kvs) k = valW kvs k := by simp [valW, List.find?_cons, hj]
        rw [e4, valV_neg (p := (j, v)) (r := us) hj]
        exact valW_ok ⟨e2, r2⟩
theorem putW_len (kvs : List (Key × W)) (k : Key) (w : W) : (putW kvs k w).length ≤ kvs.length + 1 := by
  unfold putW
  split
  · simp
  · simp
theorem kvr_any {kvs : List (Key × W)} {us : List (Key × V)} {k : Key} (h : kvs.map (·.1) = us.map (·.1)) : (kvs.any fun kv => decide (kv.1 = k)) = us.any fun kv => decide (kv.1 = k) := by
  have e1 : ∀ l : List (Key × W), (l.any fun kv => decide (kv.1 = k)) = (l.map (·.1)).any fun j => decide (j = k) := fun l => by rw [List.any_map]; rfl
  have e2 : ∀ l : List (Key × V), (l.any fun kv => decide (kv.1 = k)) = (l.map (·.1)).any fun j => decide (j = k) := fun l => by rw [List.any_map]; rfl
  rw [e1, e2, h]
theorem kvr_repl {k : Key} {w : W} {v : V} (r : VR K mg H φ w v) : ∀ {kvs : List (Key × W)} {us : List (Key × V)}, KVR K mg H φ kvs us →
    KVR K mg H φ (kvs.map fun kv => if kv.1 = k then (kv.1, w) else kv) (us.map fun kv => if kv.1 = k then (kv.1, v) else kv)
  | [], us, h => by
    have : us = [] := by simpa using h.1.symm
    subst this
    exact h
  | (j, x) :: kvs, us, h => by
    obtain ⟨h1, h2⟩ := h
    cases us with
    | nil => cases h1
    | cons p us =>
      obtain ⟨j', y⟩ := p
      simp only [List.map_cons, List.cons.injEq] at h1
      obtain ⟨e1, e2⟩ := h1
      subst e1
      have h2' : VRs K mg H φ (x :: kvs.map (·.2)) (y :: us.map (·.2)) := h2
      simp only [VRs] at h2'
      obtain ⟨v', r', e3, r1, r2⟩ := h2'
      cases e3
      obtain ⟨g1, g2⟩ := kvr_repl r (k := k) ⟨e2, r2⟩
      by_cases hj : j = k
      · refine ⟨by simp only [List.map_cons, hj, if_true]; rw [g1], ?_⟩
        simp only [List.map_cons, hj, if_true]
        exact .cons r g2
      · refine ⟨by simp only [List.map_cons, if_neg hj]; rw [g1], ?_⟩
        simp only [List.map_cons, if_neg hj]
        exact .cons r1 g2
theorem putW_ok {kvs : List (Key × W)} {us : List (Key × V)} {k : Key} {w : W} {v : V} (h : KVR K mg H φ kvs us) (r : VR K mg H φ w v) : KVR K mg H φ (putW kvs k w) (putK us k v) := by
  unfold putW putK
  rw [kvr_any h.1]
  split
  · exact kvr_repl r h
  · refine ⟨by rw [List.map_append, List.map_append, h.1]; rfl, ?_⟩
    rw [List.map_append, List.map_append]
    exact h.2.append (.one r)
theorem vint {i : Int} {v : V} (r : VR K mg H φ (.int i) v) : v = .int i := r
theorem vstr {i : Str} {v : V} (r : VR K mg H φ (.str i) v) : v = .str i := r
theorem vtup {ws : List W} {v : V} (r : VR K mg H φ (.tup ws) v) : ∃ p vs, v = .ref p ∧ SqU K H p vs ∧ VRs K mg H φ ws vs := by simpa only [VR] using r
theorem vref {a : Nat} {v : V} (r : VR K mg H φ (.ref a) v) : ∃ p, v = .ref p ∧ φ.t[a]? = some p := by simpa only [VR] using r
theorem vscr {ns : List Int} {v : V} (r : VR K mg H φ (.scr ns) v) : ∃ p, v = .ref p ∧ SqF K H p (ns.map V.int) := by simpa only [VR] using r
theorem vglo {x : Str} {v : V} (r : VR K mg H φ (.glo x) v) : ∃ a, mg x = some (.ref a) ∧ v = .ref a := by simpa only [VR] using r
/-- a list of the store -/
theorem vlst {a : Nat} {v : V} {ws : List W} (s : SR K mg H φ S) (r : VR K mg H φ (.ref a) v) (e : S[a]? = some (.lst ws)) : ∃ p vs, v = .ref p ∧ φ.t[a]? = some p ∧ H p = some (.lst vs) ∧ VRs K mg H φ ws vs := by
  obtain ⟨p, rfl, q⟩ := vref r
  obtain ⟨vs, e2, rr⟩ := s.at_ a _ p e q
  exact ⟨p, vs, rfl, q, e2, rr⟩
theorem vdic {a : Nat} {v : V} {kvs : List (Key × W)} (s : SR K mg H φ S) (r : VR K mg H φ (.ref a) v) (e : S[a]? = some (.dic kvs)) : ∃ p us, v = .ref p ∧ φ.t[a]? = some p ∧ H p = some (.dK us) ∧ KVR K mg H φ kvs us := by
  obtain ⟨p, rfl, q⟩ := vref r
  obtain ⟨us, e2, rr⟩ := s.at_ a _ p e q
  exact ⟨p, us, rfl, q, e2, rr⟩
theorem lsW_ok {w : W} {v : V} {ws : List W} (s : SR K mg H φ S) (r : VR K mg H φ w v) (e : lsW w S = some ws) : ∃ p vs, v = .ref p ∧ H p = some (.lst vs) ∧ VRs K mg H φ ws vs := by
  cases w with
  | lst xs =>
    cases e
    simp only [VR] at r
    obtain ⟨p, vs, rfl, q, rr⟩ := r
    exact ⟨p, vs, rfl, q.2, rr⟩
  | ref a =>
    simp only [lsW] at e
    split at e
    · rename_i xs e0
      cases e
      obtain ⟨p, vs, rfl, t, hp, rr⟩ := vlst s r e0
      exact ⟨p, vs, rfl, hp, rr⟩
    · cases e
  | _ => cases e
theorem dcW_ok {w : W} {v : V} {kvs : List (Key × W)} (s : SR K mg H φ S) (r : VR K mg H φ w v) (e : dcW w S = some kvs) : ∃ p us, v = .ref p ∧ H p = some (.dK us) ∧ KVR K mg H φ kvs us := by
  cases w with
  | dic ks ws =>
    cases e
    simp only [VR] at r
    obtain ⟨p, us, rfl, _, q, k, rr⟩ := r
    have hl := rr.length
    subst k
    refine ⟨p, us, rfl, q, ?_, ?_⟩
    · exact List.map_fst_zip (by simp [hl])
    · rw [List.map_snd_zip (by simp [hl])]; exact rr
  | ref a =>
    simp only [dcW] at e
    split at e
    · rename_i xs e0
      cases e
      obtain ⟨p, vs, rfl, t, hp, rr⟩ := vdic s r e0
      exact ⟨p, vs, rfl, hp, rr⟩
    · cases e
  | _ => cases e
/-- an end without a new object -/
theorem same_end {u : W} {z : V} {Q : VK} (s : SR K mg H φ S) (r : VR K mg H φ u z) (q : ∀ z H' φ', Ext H H' φ φ' → SR K mg H' φ' S → VR K mg H' φ' u z → Q z H') : Q z H := q z H φ .refl s r

def rAddM (K : PySem.W.Frag) : R2 := fun x y H Q => (∃ i j, x = .int i ∧ y = .int j ∧ Q (.int (i + j)) H) ∨ (∃ i j, x = .str i ∧ y = .str j ∧ i.length + j.length ≤ sizeLine ∧ Q (.str (i ++ j)) H) ∨ rCatA K x y H Q ∨ rCat x y H Q
theorem op_addM {X : Cx} : OpR X (binaryOp .Add) (rAddM X.K) := op_add.or (op_add_str.or (op_catA.or op_cat))
theorem snd_add {m : Bool} : Snd2 K mg (addW m) (rAddM K) := fun w w' S u S' H φ v v' Q s r r' h q => by
  unfold addW at h
  split at h
  · rename_i i j
    cases h; cases vint r; cases vint r'; exact .inl ⟨i, j, rfl, rfl, same_end s (by simp [VR]) q⟩
  · rename_i i j
    split at h
    · rename_i hz
      cases h; cases vstr r; cases vstr r'
      exact .inr (.inl ⟨i, j, rfl, rfl, hz, same_end s (by simp [VR]) q⟩)
    · cases h
  · rename_i xs ys
    split at h
    · rename_i hz
      cases h
      obtain ⟨p, vs, rfl, t, rr⟩ := vtup r
      obtain ⟨p', vs', rfl, t', rr'⟩ := vtup r'
      have l1 := rr.length
      have l2 := rr'.length
      refine .inr (.inr (.inl ⟨p, p', vs, vs', rfl, rfl, t.sq, t'.sq, by omega, fun e => ?_, fun e e' => ?_, fun e e' a ha => ?_⟩))
      · subst e
        have : xs = [] := List.length_eq_zero_iff.mp l1
        subst this
        exact same_end s (by simp only [VR]; exact ⟨p', vs', rfl, t', rr'⟩) q
      · subst e'
        have : ys = [] := List.length_eq_zero_iff.mp l2
        subst this
        rw [List.append_nil] at q
        exact same_end s (by simp only [VR]; exact ⟨p, vs, rfl, t, rr⟩) q
      · obtain ⟨x, s'⟩ := s.extra (o := .tup (vs ++ vs')) ha
        exact q _ _ _ x s' (by simp only [VR]; exact ⟨a, vs ++ vs', rfl, .inl upd_same, (rr.append rr').mono x⟩)
    · cases h
  · split at h
    · rename_i xs ys e1 e2
      split at h
      · rename_i hz
        have e := Option.some.inj h
        obtain ⟨p, vs, rfl, hp, rr⟩ := lsW_ok s r e1
        obtain ⟨p', vs', rfl, hp', rr'⟩ := lsW_ok s r' e2
        have l1 := rr.length
        have l2 := rr'.length
        exact .inr (.inr (.inr ⟨p, p', vs, vs', rfl, rfl, hp, hp', by omega, new_lst (m := m) s (rr.append rr') (by rw [e]; exact q)⟩))
      · cases h
    · cases h
theorem snd_sub : Snd2 K mg subW (rI0 fun i j => .int (i - j)) := fun w w' S u S' H φ v v' Q s r r' h q => by
  cases w with
  | int i =>
    cases w' with
    | int j => cases h; cases vint r; cases vint r'; exact ⟨i, j, rfl, rfl, same_end s (by simp [VR]) q⟩
    | _ => cases h
  | _ => cases h
/-- a text that is repeated -/
def rMulS : R2 := fun x y H Q => ∃ z k, x = .str z ∧ y = .int k ∧ z.length ≤ 1000 ∧ -(2 ^ 63) ≤ k ∧ k ≤ 1000 ∧ Q (.str (Txt.mul z k)) H
theorem op_mul_str {X : Cx} : OpR X (binaryOp .Mult) rMulS := by
  intro pins s σ H x y v u Q I rx ry h
  obtain ⟨z, k, rfl, rfl, h1, h2, h3, q⟩ := h
  obtain ⟨t, rfl⟩ := rx
  obtain ⟨t', rfl⟩ := ry
  exact PySem.SB.mul (PyProof.Rows.mulOk_of 1000 1000 h1 (by omega) h2 (by omega) (by omega)) (fun t' tk => ⟨.str (Txt.mul z k), H, I.tok _, ⟨_, rfl⟩, q⟩)
def rMulM : R2 := fun x y H Q => rI CMul (fun i j => .int (i * j)) x y H Q ∨ rMulS x y H Q ∨ rRep x y H Q
theorem op_mulM {X : Cx} : OpR X (binaryOp .Mult) rMulM := op_mul.or (op_mul_str.or op_rep)
theorem VRs.rep {ws : List W} {vs : List V} (h : VRs K mg H φ ws vs) : ∀ k : Nat, VRs K mg H φ (List.replicate k ws).flatten (List.replicate k vs).flatten
  | 0 => .nil
  | k + 1 => by
    rw [List.replicate_succ, List.replicate_succ, List.flatten_cons, List.flatten_cons]
    exact h.append (h.rep k)
theorem snd_mul {m : Bool} : Snd2 K mg (mulW m) rMulM := fun w w' S u S' H φ v v' Q s r r' h q => by
  unfold mulW at h
  split at h
  · rename_i i j
    split at h
    · rename_i hz
      cases h; cases vint r; cases vint r'; exact .inl ⟨i, j, rfl, rfl, hz, same_end s (by simp [VR]) q⟩
    · cases h
  · rename_i z k
    split at h
    · rename_i hz
      cases h; cases vstr r; cases vint r'; exact .inr (.inl ⟨z, k, rfl, rfl, hz.1, hz.2.1, hz.2.2, same_end s (by simp [VR]) q⟩)
    · cases h
  · rename_i k _ _
    split at h
    · rename_i xs e1
      split at h
      · rename_i hz
        have e := Option.some.inj h
        cases vint r'
        obtain ⟨p, vs, rfl, hp, rr⟩ := lsW_ok s r e1
        exact .inr (.inr ⟨p, k, vs, rfl, rfl, hp, hz.1, hz.2.1, by rw [← rr.length]; exact hz.2.2, new_lst (m := m) s (rr.rep k.toNat) (by rw [e]; exact q)⟩)
      · cases h
    · cases h
  · cases h
theorem snd_fdiv : Snd2 K mg fdivW (rI CDiv fun i j => .int (i / j)) := fun w w' S u S' H φ v v' Q s r r' h q => by
  cases w with
  | int i =>
    cases w' with
    | int j =>
      simp only [fdivW] at h
      split at h
      · rename_i hz
        cases h; cases vint r; cases vint r'; exact ⟨i, j, rfl, rfl, hz, same_end s (by simp [VR]) q⟩
      · cases h
    | _ => cases h
  | _ => cases h
theorem snd_mod : Snd2 K mg modW (rI (fun _ j => 0 < j) fun i j => .int (i % j)) := fun w w' S u S' H φ v v' Q s r r' h q => by
  cases w with
  | int i =>
    cases w' with
    | int j =>
      simp only [modW] at h
      split at h
      · rename_i hz
        cases h; cases vint r; cases vint r'; exact ⟨i, j, rfl, rfl, hz, same_end s (by simp [VR]) q⟩
      · cases h
    | _ => cases h
  | _ => cases h
theorem snd_pow : Snd2 K mg powW (rI CPow fun i j => .int (i ^ j.toNat)) := fun w w' S u S' H φ v v' Q s r r' h q => by
  cases w with
  | int i =>
    cases w' with
    | int j =>
      simp only [powW] at h
      split at h
      · rename_i hz
        cases h; cases vint r; cases vint r'; exact ⟨i, j, rfl, rfl, hz, same_end s (by simp [VR]) q⟩
      · cases h
    | _ => cases h
  | _ => cases h
theorem snd_neg : Snd1 K mg negW (rU fun i => .int (-i)) := fun w S u S' H φ v Q s r h q => by
  cases w with
  | int i => cases h; cases vint r; exact ⟨i, rfl, same_end s (by simp [VR]) q⟩
  | _ => cases h
theorem snd_eq : Snd2 K mg eqW rEq := fun w w' S u S' H φ v v' Q s r r' h q => by
  simp only [eqW] at h
  split at h
  · rename_i a b e1 e2
    split at h
    · rename_i hz
      cases h
      cases scV_ok r e1
      cases scV_ok r' e2
      exact ⟨hz, same_end s (by simp [VR]) q⟩
    · cases h
  · cases h
theorem snd_ne : Snd2 K mg neW rNe := fun w w' S u S' H φ v v' Q s r r' h q => by
  simp only [neW] at h
  split at h
  · rename_i a b e1 e2
    split at h
    · rename_i hz
      cases h
      cases scV_ok r e1
      cases scV_ok r' e2
      exact ⟨hz, same_end s (by simp [VR]) q⟩
    · cases h
  · cases h
theorem snd_cmp {p : Int → Int → Bool} : Snd2 K mg (cmpW p) (rI0 fun i j => .bl (p i j)) := fun w w' S u S' H φ v v' Q s r r' h q => by
  cases w with
  | int i =>
    cases w' with
    | int j => cases h; cases vint r; cases vint r'; exact ⟨i, j, rfl, rfl, same_end s (by simp [VR]) q⟩
    | _ => cases h
  | _ => cases h
theorem isN_dec {w : W} {v : V} (r : VR K mg H φ w v) : (decide (v = V.non)) = isNon w := by
  cases w with
  | non => cases (show v = .non from r); rfl
  | bl b => cases (show v = .bl b from r); rfl
  | int b => cases (show v = .int b from r); rfl
  | str b => cases (show v = .str b from r); rfl
  | ty b => cases (show v = .ty b from r); rfl
  | tup b => obtain ⟨p, vs, rfl, _⟩ := vtup r; rfl
  | ref b => obtain ⟨p, rfl, _⟩ := vref r; rfl
  | scr b => obtain ⟨p, rfl, _⟩ := vscr r; rfl
  | siz b => simp only [VR] at r; obtain ⟨p, rfl, _⟩ := r; rfl
  | lst b => simp only [VR] at r; obtain ⟨p, _, rfl, _⟩ := r; rfl
  | dic b c => simp only [VR] at r; obtain ⟨p, _, rfl, _⟩ := r; rfl
  | glo b => obtain ⟨p, _, rfl⟩ := vglo r; rfl
theorem snd_isN : Snd2 K mg isNW (fun x y H Q => y = .non ∧ Q (.bl (decide (x = .non))) H) := fun w w' S u S' H φ v v' Q s r r' h q => by
  cases w' with
  | non =>
    cases h
    refine ⟨r', ?_⟩
    rw [isN_dec r]
    exact same_end s (by simp [VR]) q
  | _ => cases h
theorem snd_notN : Snd2 K mg notNW (fun x y H Q => y = .non ∧ Q (.bl (!decide (x = .non))) H) := fun w w' S u S' H φ v v' Q s r r' h q => by
  cases w' with
  | non =>
    cases h
    refine ⟨r', ?_⟩
    rw [isN_dec r]
    exact same_end s (by simp [VR]) q
  | _ => cases h

/-! ### in -/
variable {w0 : World} {G : GD}
/-- every way of «in» -/
def rInM (K : PySem.W.Frag) (w : World) (neg : Bool) : R2 := fun x y H Q => rIn K neg x y H Q ∨ (∃ a o, y = .ref a ∧ DGet H a x o ∧ Q (.bl (if neg then !o.isSome else o.isSome)) H) ∨
  (∃ (c : Nat) (z : Str), x = .str ⟨#[c]⟩ ∧ y = .str z ∧ Q (.bl (if neg then !decide (c ∈ z.cps.toList) else decide (c ∈ z.cps.toList))) H) ∨
  (∃ d es n, KDict K w d es n ∧ ∃ (z : Str) (r : Option Value), x = .str z ∧ y = .ref d ∧ PySem.W.nsIn K d z = some r ∧ Q (.bl (if neg then !r.isSome else r.isSome)) H)
theorem op_inM {X : Cx} (hu : X.A.units + 1 < cLine) : OpR X (compareOp .In) (rInM X.K X.w false) := by
  intro pins s σ H x y v u Q I rx ry h
  rcases h with h | ⟨a, o, rfl, g, q⟩ | ⟨c, z, h1, h2, q⟩ | ⟨d, es, n, D, z, r, h1, h2, e, q⟩
  · exact op_in_seq pins s σ H x y v u Q I rx ry h
  · cases ry
    exact d_in hu I g rx fun s3 I3 => ⟨.bl o.isSome, H, I3, rfl, q⟩
  · exact op_in_sign pins s σ H x y v u Q I rx ry ⟨c, z, h1, h2, q⟩
  · exact op_in_kd D pins s σ H x y v u Q I rx ry ⟨z, r, h1, h2, e, q⟩
theorem op_notInM {X : Cx} (hu : X.A.units + 1 < cLine) : OpR X (compareOp .NotIn) (rInM X.K X.w true) := by
  intro pins s σ H x y v u Q I rx ry h
  rcases h with h | ⟨a, o, rfl, g, q⟩ | ⟨c, z, h1, h2, q⟩ | ⟨d, es, n, D, z, r, h1, h2, e, q⟩
  · exact op_notIn_seq pins s σ H x y v u Q I rx ry h
  · cases ry
    exact d_notIn hu I g rx fun s3 I3 => ⟨.bl (!o.isSome), H, I3, rfl, q⟩
  · exact op_notIn_sign pins s σ H x y v u Q I rx ry ⟨c, z, h1, h2, q⟩
  · exact op_notIn_kd D pins s σ H x y v u Q I rx ry ⟨z, r, h1, h2, e, q⟩
theorem inB_ok (hG : GdOk K mg w0 G) {x y : W} {v v' : V} {b : Bool} {Q : VK} {neg : Bool} (s : SR K mg H φ S) (r : VR K mg H φ x v) (r' : VR K mg H φ y v') (h : inB G x y S = some b) (q : Q (.bl (if neg then !b else b)) H) : rInM K w0 neg v v' H Q := by
  unfold inB at h
  split at h
  · rename_i ys
    split at h
    · rename_i a vs e1 e2
      cases h
      obtain ⟨p, us, rfl, t, rr⟩ := vtup r'
      obtain ⟨e3, e4⟩ := scVs_ok rr e2
      subst e3
      cases scV_ok r e1
      exact .inl ⟨p, us, rfl, .inr t.sq, scV_flat e1, e4, q⟩
    · cases h
  · rename_i z
    cases x with
    | str t =>
      dsimp only at h
      split at h
      · rename_i hz
        cases h
        cases vstr r
        cases vstr r'
        obtain ⟨cs⟩ := t
        obtain ⟨c, rfl⟩ : ∃ c, cs = #[c] := Array.size_eq_one_iff.mp hz
        exact .inr (.inr (.inl ⟨c, z, rfl, rfl, q⟩))
      · cases h
    | _ => cases h
  · rename_i g
    split at h
    · rename_i kvs t e1
      cases h
      obtain ⟨a, m, rfl⟩ := vglo r'
      cases vstr r
      obtain ⟨d, es, n, m', D, hz⟩ := hG g kvs e1
      rw [m] at m'; cases m'
      have := hz t
      cases e2 : kvs.lookup t with
      | none => rw [e2] at this q; exact .inr (.inr (.inr ⟨a, es, n, D, t, none, rfl, rfl, this, q⟩))
      | some w1 =>
        rw [e2] at this q
        obtain ⟨u0, v0, e3, _⟩ := this
        exact .inr (.inr (.inr ⟨a, es, n, D, t, some u0, rfl, rfl, e3, q⟩))
    · cases h
  · split at h
    · rename_i ys e0
      split at h
      · rename_i a vs e1 e2
        cases h
        obtain ⟨p, us, rfl, hp, rr⟩ := lsW_ok s r' e0
        obtain ⟨e3, e4⟩ := scVs_ok rr e2
        subst e3
        cases scV_ok r e1
        exact .inl ⟨p, us, rfl, .inl (SqL.of hp), scV_flat e1, e4, q⟩
      · cases h
    · split at h
      · rename_i kvs e0
        split at h
        · rename_i k e1
          cases h
          obtain ⟨p, us, rfl, hp, rr⟩ := dcW_ok s r' e0
          cases keyW_ok r e1
          refine .inr (.inl ⟨p, valV us k, rfl, DGet.k hp, ?_⟩)
          have := valW_ok (k := k) rr
          cases e2 : valW kvs k with
          | none => rw [e2] at this q; rw [this]; exact q
          | some w1 =>
            rw [e2] at this q
            obtain ⟨v1, e3, _⟩ := this
            rw [e3]; exact q
        · cases h
      · cases h
theorem snd_in (hG : GdOk K mg w0 G) : Snd2 K mg (inW G) (rInM K w0 false) := fun w w' S u S' H φ v v' Q s r r' h q => by
  simp only [inW, Option.map_eq_some_iff] at h
  obtain ⟨b, h1, h2⟩ := h
  cases h2
  exact inB_ok hG s r r' h1 (same_end s (by simp [VR]) q)
theorem snd_notIn (hG : GdOk K mg w0 G) : Snd2 K mg (notInW G) (rInM K w0 true) := fun w w' S u S' H φ v v' Q s r r' h q => by
  simp only [notInW, Option.map_eq_some_iff] at h
  obtain ⟨b, h1, h2⟩ := h
  cases h2
  exact inB_ok hG s r r' h1 (same_end s (by simp [VR]) q)

/-! ### x[y] -/
def rIxD : R2 := fun x y H Q => ∃ a v, x = .ref a ∧ DGet H a y (some v) ∧ Q v H
theorem ix_dict {X : Cx} (hu : X.A.units + 1 < cLine) : IxR X rIxD := by
  intro value slice pins s σ H x y v u Q I rx ry h hs
  obtain ⟨a, z, rfl, g, q⟩ := h
  cases rx
  exact tail_any (dict_typeIs I g) PySem.F.slot_dict_getitem.lookup (d_getItem hu I g ry fun w' s3 I3 rw' => ⟨z, H, I3, rw', q⟩) hs
def rIxK (K : PySem.W.Frag) (w : World) : R2 := fun x y H Q => ∃ d es n, KDict K w d es n ∧ ∃ (z : Str) (u0 : Value) (v0 : V), x = .ref d ∧ y = .str z ∧ PySem.W.nsIn K d z = some (some u0) ∧ RelV v0 u0 ∧ Q v0 H
theorem ix_kd {X : Cx} : IxR X (rIxK X.K X.w) := by
  intro value slice pins s σ H x y v u Q I rx ry h hs
  obtain ⟨d, es, n, D, z, u0, v0, rfl, rfl, e, r, q⟩ := h
  cases rx
  exact tail_any (kd_type D I) PySem.F.slot_dict_getitem.lookup (op_item_kd D pins s σ H (.ref d) (.str z) (.ref d) u Q I rfl ry ⟨z, u0, v0, rfl, rfl, e, r, q⟩) hs
def rIxM (K : PySem.W.Frag) (w : World) : R2 := fun x y H Q => (rIxL K x y H Q ∨ rIxT K x y H Q ∨ rIxS x y H Q) ∨ rIxD x y H Q ∨ rIxK K w x y H Q
theorem ix_M {X : Cx} (hu : X.A.units + 1 < cLine) : IxR X (rIxM X.K X.w) := IxR.or (ix_list.or (ix_tup.or ix_str)) ((ix_dict hu).or ix_kd)
theorem atI_ok {ws : List W} {vs : List V} {i : Int} {w : W} (r : VRs K mg H φ ws vs) (h : atI ws i = some w) : ∃ v, atI vs i = some v ∧ VR K mg H φ w v := by
  unfold atI at h ⊢
  rw [← r.length]
  cases e : ixN ws.length i with
  | none => rw [e] at h; cases h
  | some j =>
    rw [e] at h
    obtain ⟨v, e1, rv⟩ := r.get (i := j) h
    exact ⟨v, e1, rv⟩
theorem atI_map {α β : Type} {f : α → β} {xs : List α} {i : Int} {x : α} (h : atI xs i = some x) : atI (xs.map f) i = some (f x) := by
  unfold atI at h ⊢
  rw [List.length_map]
  cases e : ixN xs.length i with
  | none => rw [e] at h; cases h
  | some j =>
    rw [e] at h
    show (xs.map f)[j]? = _
    rw [List.getElem?_map]
    have h' : xs[j]? = some x := h
    rw [h']; rfl
theorem snd_get (hG : GdOk K mg w0 G) : Snd2 K mg (getW G) (rIxM K w0) := fun w w' S u S' H φ v v' Q s r r' h q => by
  unfold getW at h
  split at h
  · rename_i xs
    cases w' with
    | int i =>
      simp only [Option.map_eq_some_iff] at h
      obtain ⟨x, h1, h2⟩ := h
      cases h2
      obtain ⟨p, us, rfl, t, rr⟩ := vtup r
      cases vint r'
      obtain ⟨z, e1, rz⟩ := atI_ok rr h1
      exact .inl (.inr (.inl ⟨p, us, i, z, rfl, rfl, t.sq, e1, same_end s rz q⟩))
    | _ => cases h
  · rename_i ns
    cases w' with
    | int i =>
      simp only [Option.map_eq_some_iff] at h
      obtain ⟨x, h1, h2⟩ := h
      cases h2
      obtain ⟨p, rfl, t⟩ := vscr r
      cases vint r'
      exact .inl (.inl ⟨p, _, i, .int x, rfl, rfl, t.sq, atI_map h1, same_end s (by simp [VR]) q⟩)
    | _ => cases h
  · rename_i z
    cases w' with
    | int i =>
      dsimp only at h
      split at h
      · rename_i hz
        simp only [Option.map_eq_some_iff] at h
        obtain ⟨x, h1, h2⟩ := h
        cases h2
        cases vstr r
        cases vint r'
        exact .inl (.inr (.inr ⟨z, i, x, rfl, rfl, hz, h1, same_end s (by simp [VR, chrW]) q⟩))
      · cases h
    | _ => cases h
  · rename_i g
    split at h
    · rename_i kvs t e1
      simp only [Option.map_eq_some_iff] at h
      obtain ⟨x, h1, h2⟩ := h
      cases h2
      obtain ⟨a, m, rfl⟩ := vglo r
      cases vstr r'
      obtain ⟨d, es, n, m', D, hz⟩ := hG g kvs e1
      rw [m] at m'; cases m'
      have := hz t
      rw [h1] at this
      obtain ⟨u0, v0, e3, rv, rw'⟩ := this
      exact .inr (.inr ⟨a, es, n, D, t, u0, v0, rfl, rfl, e3, rv, same_end s (rw' _ _) q⟩)
    · cases h
  · split at h
    · rename_i xs e0
      cases w' with
      | int i =>
        simp only [Option.map_eq_some_iff] at h
        obtain ⟨x, h1, h2⟩ := h
        cases h2
        obtain ⟨p, us, rfl, hp, rr⟩ := lsW_ok s r e0
        cases vint r'
        obtain ⟨z, e1, rz⟩ := atI_ok rr h1
        exact .inl (.inl ⟨p, us, i, z, rfl, rfl, SqL.of hp, e1, same_end s rz q⟩)
      | _ => cases h
    · split at h
      · rename_i kvs e0
        split at h
        · rename_i k e1
          simp only [Option.map_eq_some_iff] at h
          obtain ⟨x, h1, h2⟩ := h
          cases h2
          obtain ⟨p, us, rfl, hp, rr⟩ := dcW_ok s r e0
          cases keyW_ok r' e1
          have := valW_ok (k := k) rr
          rw [h1] at this
          obtain ⟨z, e3, rz⟩ := this
          exact .inr (.inl ⟨p, z, rfl, by rw [← e3]; exact DGet.k hp, same_end s rz q⟩)
        · cases h
      · cases h

/-! ### x[y] = v -/
theorem PSet.or {X : Cx} {t t' : TSet} (h : PSet X t) (h' : PSet X t') : PSet X (fun o i v H Q => t o i v H Q ∨ t' o i v H Q) := fun pins s σ H o i v ov iv u Q I r1 r2 r3 q => q.elim (h pins s σ H o i v ov iv u Q I r1 r2 r3) (h' pins s σ H o i v ov iv u Q I r1 r2 r3)
def rSetD : TSet := fun o i v H Q => ∃ a H', o = .ref a ∧ DPut H a i v H' ∧ Q H'
theorem set_dict {X : Cx} (hu : X.A.units + 1 < cLine) : PSet X rSetD := by
  intro pins s σ H o i v ov iv u Q I r1 r2 r3 h
  obtain ⟨a, H', rfl, g, q⟩ := h
  cases r1
  exact d_setItem hu I g r2 r3 fun s4 I4 => ⟨H', I4, q⟩
def rSetM : TSet := fun o i v H Q => rSetL o i v H Q ∨ rSetD o i v H Q
theorem set_M {X : Cx} (hu : X.A.units + 1 < cLine) : PSet X rSetM := PSet.or set_list (set_dict hu)
theorem snd_set : Snd3 K mg setW rSetM := fun x y v S S' H φ xo yo vo Q s rx ry rv h q => by
  cases x with
  | ref a =>
    simp only [setW] at h
    split at h
    · rename_i xs e0
      split at h
      · rename_i i
        simp only [Option.map_eq_some_iff] at h
        obtain ⟨j, h1, h2⟩ := h
        subst h2
        obtain ⟨p, us, rfl, t, hp, rr⟩ := vlst s rx e0
        cases vint ry
        obtain ⟨x, s'⟩ := s.write (ob := .lst (xs.set j v)) (o := .lst (us.set j vo)) t fun H' φ' x e => ⟨_, e, (rr.mono x).set (rv.mono x) j⟩
        exact .inl ⟨p, us, i, j, rfl, rfl, hp, by rw [← rr.length]; exact h1, q _ _ x s'⟩
      · cases h
    · rename_i kvs e0
      split at h
      · rename_i k e1
        split at h
        · rename_i hz
          cases h
          obtain ⟨p, us, rfl, t, hp, rr⟩ := vdic s rx e0
          cases keyW_ok ry e1
          have l1 : kvs.length = us.length := by have := congrArg List.length rr.1; simpa using this
          obtain ⟨x, s'⟩ := s.write (ob := .dic (putW kvs k v)) (o := .dK (putK us k vo)) t fun H' φ' x e => ⟨_, e, putW_ok (rr.mono x) (rv.mono x)⟩
          exact .inr ⟨p, _, rfl, DPut.k hp (by omega), q _ _ x s'⟩
        · cases h
      · cases h
    · cases h
  | _ => cases h
end
end Sh

set_option Elab.async false
set_option linter.all false
set_option maxRecDepth 100000
set_option maxHeartbeats 2000000
/-! ShB: built-ins, methods, slices, displays of dicts, calls of the text's defs. -/
namespace Sh
open PySem PySem.Spec PyProof.Rows L2

/-! ### the model -/
def tyName (w : W) (S : Store) : Option String := match w with
  | .non => some "NoneType"
  | .bl _ => some "bool"
  | .int _ => some "int"
  | .str _ => some "str"
  | .tup _ => some "tuple"
  | .scr _ => some "list"
  | .lst _ => some "list"
  | .dic _ _ => some "dict"
  | .ref a => match S[a]? with
    | some (.lst _) => some "list"
    | some (.dic _) => some "dict"
    | _ => none
  | _ => none
def isTy (a n : String) : Bool := a == n || (a == "bool" && n == "int")
def tyNs : List String := ["int", "str", "list", "tuple", "dict", "bool"]
def tysW : List W → Option (List String)
  | [] => some []
  | .ty n :: r => if n ∈ tyNs then (tysW r).map fun ns => n :: ns else none
  | _ => none
def isiN : PN := fun ws S => match ws with
  | [x, .ty n] => match tyName x S with
    | some a => if n ∈ tyNs then some (.bl (isTy a n), S) else none
    | none => none
  | [x, .tup cs] => match tyName x S with
    | some a => (tysW cs).map fun ns => (.bl (ns.any (isTy a)), S)
    | none => none
  | _ => none
def lenN : PN := fun ws S => match ws with
  | [.str x] => if x.length ≤ sizeLine then some (.int x.length, S) else none
  | [.tup xs] => some (.int xs.length, S)
  | [.scr ns] => some (.int ns.length, S)
  | [x] => match lsW x S with
    | some xs => some (.int xs.length, S)
    | none => match dcW x S with
      | some kvs => some (.int kvs.length, S)
      | none => none
  | _ => none
def absN : PN := fun ws S => match ws with
  | [.int i] => some (.int (if i < 0 then -i else i), S)
  | _ => none
def intN : PN := fun ws S => match ws with
  | [.int i] => some (.int i, S)
  | [.bl b] => some (.int (if b then 1 else 0), S)
  | _ => none
noncomputable def strN : PN := fun ws S => match ws with
  | [.int i] => if -big ≤ i ∧ i < big then some (.str (toString i), S) else none
  | [.str x] => some (.str x, S)
  | [.bl b] => some (.str (if b then "True" else "False"), S)
  | _ => none
def ordN : PN := fun ws S => match ws with
  | [.str x] => if x.length = 1 then some (.int (x.cps.getD 0 0 : Nat), S) else none
  | _ => none
def minN : PN := fun ws S => match ws with
  | [.int i, .int j] => some (.int (if j < i then j else i), S)
  | _ => none
def maxN : PN := fun ws S => match ws with
  | [.int i, .int j] => some (.int (if j > i then j else i), S)
  | _ => none
def kW : Key → W
  | .inl i => .int i
  | .inr x => .str x
def listN (m : Bool) : PN := fun ws S => match ws with
  | [.tup xs] => some (mkL m xs S)
  | [.scr ns] => some (mkL m (ns.map W.int) S)
  | [x] => match lsW x S with
    | some xs => some (mkL m xs S)
    | none => match dcW x S with
      | some kvs => some (mkL m (kvs.map fun kv => kW kv.1) S)
      | none => none
  | _ => none
def tupleN : PN := fun ws S => match ws with
  | [.tup xs] => some (.tup xs, S)
  | [x] => match lsW x S with
    | some xs => some (.tup xs, S)
    | _ => none
  | _ => none
def blsW : List W → Option (List Bool)
  | [] => some []
  | .bl b :: r => (blsW r).map fun bs => b :: bs
  | _ => none
def anyN : PN := fun ws S => match ws with
  | [x] => match lsW x S with
    | some xs => (blsW xs).map fun bs => (.bl (bs.any id), S)
    | _ => none
  | _ => none
def allN : PN := fun ws S => match ws with
  | [x] => match lsW x S with
    | some xs => (blsW xs).map fun bs => (.bl (bs.all id), S)
    | _ => none
  | _ => none
def strsW : List W → Option (List Str)
  | [] => some []
  | .str x :: r => (strsW r).map fun bs => x :: bs
  | _ => none
/-- a method's type, seen ahead of its arguments -/
def tyM (T : String) (x : W) (S : Store) : Bool := match x with
  | .str _ => decide (T = "str")
  | .lst _ => decide (T = "list")
  | .dic _ _ => decide (T = "dict")
  | .ref a => match S[a]? with
    | some (.lst _) => decide (T = "list")
    | some (.dic _) => decide (T = "dict")
    | _ => false
  | _ => false
def eMeth (T : String) (f : W → PN) (o : EM) (as : List EM) : EM := fun e S => (o e S).bind fun x S1 => if tyM T x S1 then (evs as e S1).bind fun xs S2 => lift (f x xs S2) else .bad
def appendM : W → PN := fun x ws S => match x, ws with
  | .ref a, [w] => match S[a]? with
    | some (.lst xs) => if xs.length < sizeLine then some (.non, S.set a (.lst (xs ++ [w]))) else none
    | _ => none
  | _, _ => none
def popM : W → PN := fun x ws S => match x, ws with
  | .ref a, [] => match S[a]? with
    | some (.lst xs) => match xs[xs.length - 1]? with
      | some w => some (w, S.set a (.lst xs.dropLast))
      | none => none
    | _ => none
  | _, _ => none
def joinM : W → PN := fun x ws S => match x, ws with
  | .str s, [.tup ys] => match strsW ys with
      | some zs => if (zs.map (·.length)).sum + zs.length * s.length ≤ 16777216 then some (.str (Txt.join s zs), S) else none
      | none => none
  | .str s, [y] => match lsW y S with
    | some ys => match strsW ys with
      | some zs => if (zs.map (·.length)).sum + zs.length * s.length ≤ 16777216 then some (.str (Txt.join s zs), S) else none
      | none => none
    | _ => none
  | _, _ => none
def splitM (m : Bool) : W → PN := fun x ws S => match x, ws with
  | .str a, [.str b] => if b.length ≠ 0 ∧ a.length + 2 ≤ sizeLine then some (mkL m ((Txt.split a b).map W.str) S) else none
  | _, _ => none
def mergeW (kvs more : List (Key × W)) : List (Key × W) := more.foldl (fun acc kv => putW acc kv.1 kv.2) kvs
def neqR (a : Nat) : W → Bool
  | .ref b => decide (a ≠ b)
  | _ => true
def updateM : W → PN := fun x ws S => match x, ws with
  | .ref a, [y] => match S[a]?, dcW y S with
    | some (.dic kvs), some more => if neqR a y = true ∧ kvs.length + more.length ≤ sizeLine then some (.non, S.set a (.dic (mergeW kvs more))) else none
    | _, _ => none
  | _, _ => none
/-- x[lo:hi] -/
def partW : W → Option (Option Int)
  | .int i => some (some i)
  | _ => none
abbrev OM := Option EM
def evO (o : OM) (e : En) (S : Store) : R (Option Int) := match o with
  | none => .ok none S
  | some a => (a e S).bind fun w S1 => match w with
    | .int i => .ok (some i) S1
    | _ => .bad
def cutL {α : Type} (xs : List α) (lo hi : Option Int) : List α := (xs.drop (HT.sIx xs.length 0 lo)).take (HT.sIx xs.length xs.length hi - HT.sIx xs.length 0 lo)
def cutW (m : Bool) (x : W) (lo hi : Option Int) (S : Store) : Option (W × Store) := match x with
  | .tup xs => some (.tup (cutL xs lo hi), S)
  | .scr ns => some (mkL m ((cutL ns lo hi).map W.int) S)
  | .str z => if z.length ≤ sizeLine then some (.str (cutS z lo hi), S) else none
  | x => match lsW x S with
    | some xs => some (mkL m (cutL xs lo hi) S)
    | _ => none
def eCut (m : Bool) (a : EM) (lo hi : OM) : EM := fun e S => (a e S).bind fun x S1 => (evO lo e S1).bind fun l S2 => (evO hi e S2).bind fun h S3 => lift (cutW m x l h S3)
/-- {k: v, ..} -/
def dicKV : List W → Option (List (Key × W))
  | [] => some []
  | k :: v :: r => match keyW k, dicKV r with
    | some k, some kvs => some ((k, v) :: kvs)
    | _, _ => none
  | _ => none
def mkD (m : Bool) (kvs : List (Key × W)) (S : Store) : W × Store := if m = true then (.ref S.length, S ++ [.dic kvs]) else (.dic (kvs.map (·.1)) (kvs.map (·.2)), S)
@[simp] theorem mkD_t (kvs : List (Key × W)) (S : Store) : mkD true kvs S = (.ref S.length, S ++ [.dic kvs]) := rfl
@[simp] theorem mkD_f (kvs : List (Key × W)) (S : Store) : mkD false kvs S = (.dic (kvs.map (·.1)) (kvs.map (·.2)), S) := rfl
def dicN (m : Bool) : PN := fun ws S => match dicKV ws with
  | some kvs => if kvs.length ≤ 15 then some (mkD m (mergeW [] kvs) S) else none
  | none => none

/-! ### soundness -/
section
variable {K : PySem.W.Frag} {mg : Str → Option Value} {H : Hp} {φ : Fi} {S : Store}
theorem ty_ok {w : W} {v : V} {a : String} (s : SR K mg H φ S) (r : VR K mg H φ w v) (h : tyName w S = some a) : TyX K H v (.type a) := by
  cases w with
  | non => cases h; cases (show v = .non from r); exact .base .non
  | bl b => cases h; cases (show v = .bl b from r); exact .base (.bl b)
  | int i => cases h; cases vint r; exact .base (.int i)
  | str x => cases h; cases vstr r; exact .base (.str x)
  | tup xs =>
    cases h
    obtain ⟨p, vs, rfl, t, rr⟩ := vtup r
    rcases t with t | ⟨o, its, n, h1, h2, _⟩
    · exact .base (.tup t)
    · exact .kTuple h1 h2
  | lst xs =>
    cases h
    simp only [VR] at r
    obtain ⟨p, vs, rfl, t, rr⟩ := r
    exact .base (.lst t.2)
  | dic ks ws =>
    cases h
    simp only [VR] at r
    obtain ⟨p, us, rfl, _, t, _⟩ := r
    exact .base (.dK t)
  | scr ns =>
    cases h
    obtain ⟨p, rfl, t⟩ := vscr r
    rcases t with ⟨o, t⟩ | ⟨o, its, n, h1, h2, _⟩
    · exact .base (.frz t)
    · exact .kList h1 h2
  | ref a =>
    simp only [tyName] at h
    split at h
    · rename_i xs e0
      cases h
      obtain ⟨p, us, rfl, t, hp, rr⟩ := vlst s r e0
      exact .base (.lst hp)
    · rename_i kvs e0
      cases h
      obtain ⟨p, us, rfl, t, hp, rr⟩ := vdic s r e0
      exact .base (.dK hp)
    · cases h
  | _ => cases h
theorem kit_tab : ∀ a ∈ ["NoneType", "bool", "int", "str", "tuple", "list", "dict"], ∀ n ∈ tyNs, kitB a n = some (isTy a n) := by decide +kernel
theorem tyName_in {w : W} {a : String} (h : tyName w S = some a) : a ∈ ["NoneType", "bool", "int", "str", "tuple", "list", "dict"] := by
  unfold tyName at h
  split at h
  all_goals first
    | (cases h; decide)
    | (cases h)
    | (split at h <;> first | (cases h; decide) | cases h)
theorem tysW_ok {a : String} (ha : a ∈ ["NoneType", "bool", "int", "str", "tuple", "list", "dict"]) : ∀ {cs : List W} {vs : List V} {ns : List String}, VRs K mg H φ cs vs → tysW cs = some ns →
    ∃ us : List Value, Paired ClsV vs us ∧ PySem.W.kitAny K (.type a) us = some (ns.any (isTy a))
  | [], vs, b, r, h => by
    simp only [VRs] at r
    subst r
    cases h
    exact ⟨[], .nil, kitAny_nil⟩
  | c :: cs, vs, b, r, h => by
    simp only [VRs] at r
    obtain ⟨v, r', rfl, r1, r2⟩ := r
    cases c with
    | ty n =>
      simp only [tysW] at h
      split at h
      · rename_i hn
        simp only [Option.map_eq_some_iff] at h
        obtain ⟨ns, h1, rfl⟩ := h
        cases (show v = .ty n from r1)
        have k := kit_ty (K := K) (kit_tab a ha n hn)
        obtain ⟨us, p, q⟩ := tysW_ok ha r2 h1
        refine ⟨_, .cons (.ty n) p, ?_⟩
        rw [List.any_cons]
        cases e : isTy a n with
        | true =>
          rw [e] at k
          exact kitAny_cons k (fun z => by cases z) fun _ => rfl
        | false =>
          rw [e] at k
          exact kitAny_cons k (fun _ => by rw [Bool.false_or]; exact q) fun z => by cases z
      · cases h
    | _ => cases h
def rIsiM (K : PySem.W.Frag) : List V → Hp → VK → Prop := fun xs H Q => rIsi K xs H Q ∨ rIsiT K xs H Q ∨ rIsiK K xs H Q
theorem call_isiM {X : Cx} : CallR X (.builtin "isinstance") (rIsiM X.K) := CallR.or call_isi (CallR.or call_isiT call_isiK)
theorem two {a b : W} {vs : List V} (r : VRs K mg H φ [a, b] vs) : ∃ v u, vs = [v, u] ∧ VR K mg H φ a v ∧ VR K mg H φ b u := by
  simp only [VRs] at r
  obtain ⟨v, r', rfl, r1, u, r'', rfl, r2, rfl⟩ := r
  exact ⟨v, u, rfl, r1, r2⟩
theorem one {a : W} {vs : List V} (r : VRs K mg H φ [a] vs) : ∃ v, vs = [v] ∧ VR K mg H φ a v := by
  simp only [VRs] at r
  obtain ⟨v, r', rfl, r1, rfl⟩ := r
  exact ⟨v, rfl, r1⟩
theorem nil0 {vs : List V} (r : VRs K mg H φ [] vs) : vs = [] := by
  simpa only [VRs] using r
theorem snd_isi : SndN K mg isiN (rIsiM K) := fun ws S u S' H φ vs Q s r h q => by
  unfold isiN at h
  split at h
  · rename_i x n
    obtain ⟨v, c, rfl, r1, r2⟩ := two r
    split at h
    · rename_i a e1
      split at h
      · rename_i hn
        cases h
        cases (show c = .ty n from r2)
        exact .inl ⟨v, .ty n, .type a, .type n, isTy a n, rfl, .ty n, ty_ok s r1 e1, kit_ty (kit_tab a (tyName_in e1) n hn), same_end s (by simp [VR]) q⟩
      · cases h
    · cases h
  · rename_i x cs
    obtain ⟨v, c, rfl, r1, r2⟩ := two r
    split at h
    · rename_i a e1
      simp only [Option.map_eq_some_iff] at h
      obtain ⟨ns, h1, h2⟩ := h
      cases h2
      obtain ⟨p, vs, rfl, t, rr⟩ := vtup r2
      obtain ⟨us, pp, kk⟩ := tysW_ok (K := K) (tyName_in e1) rr h1
      rcases t with t | ⟨o, its, n, g1, g2, g3, g4, g5⟩
      · exact .inr (.inl ⟨v, p, vs, .type a, us, _, rfl, t, pp, ty_ok s r1 e1, kk, same_end s (by simp [VR]) q⟩)
      · have e3 := ClsV.all pp g5
        obtain ⟨oc, od, dt, sl⟩ := o
        simp only at g2 g3
        subst g2 g3
        refine .inr (.inr ⟨v, p, od, us, n, sl, .type a, _, rfl, ?_, ty_ok s r1 e1, kk, same_end s (by simp [VR]) q⟩)
        rw [g1, ← e3]
      
    · cases h
  · cases h
def rLenM (K : PySem.W.Frag) : List V → Hp → VK → Prop := fun xs H Q => (∃ x n, xs = [x] ∧ LenV K x H n ∧ Q (.int n) H) ∨ ∃ a kvs, xs = [.ref a] ∧ H a = some (.dK kvs) ∧ Q (.int kvs.length) H
theorem call_lenM {X : Cx} : CallR X (.builtin "len") (rLenM X.K) := by
  intro pins s σ H xs us Q I r h
  rcases h with h | ⟨a, kvs, rfl, e, q⟩
  · exact call_len pins s σ H xs us Q I r h
  · obtain ⟨u, rfl, rx⟩ := vals1 r
    cases rx
    exact d_len I (.inl e) fun t s' I' => ⟨.int kvs.length, H, I', ⟨t, rfl⟩, q⟩
theorem snd_len : SndN K mg lenN (rLenM K) := fun ws S u S' H φ vs Q s r h q => by
  unfold lenN at h
  split at h
  · rename_i x
    obtain ⟨v, rfl, r1⟩ := one r
    split at h
    · rename_i hz
      cases h; cases vstr r1
      exact .inl ⟨.str x, x.length, rfl, ⟨hz, rfl⟩, same_end s (by simp [VR]) q⟩
    · cases h
  · rename_i xs
    obtain ⟨v, rfl, r1⟩ := one r
    cases h
    obtain ⟨p, us, rfl, t, rr⟩ := vtup r1
    exact .inl ⟨.ref p, us.length, rfl, .inr ⟨us, t.sq, rfl⟩, same_end s (by rw [rr.length]; simp [VR]) q⟩
  · rename_i ns
    obtain ⟨v, rfl, r1⟩ := one r
    cases h
    obtain ⟨p, rfl, t⟩ := vscr r1
    exact .inl ⟨.ref p, (ns.map V.int).length, rfl, .inl ⟨_, t.sq, rfl⟩, same_end s (by rw [List.length_map]; simp [VR]) q⟩
  · rename_i x _ _ _
    obtain ⟨v, rfl, r1⟩ := one r
    split at h
    · rename_i xs e0
      cases h
      obtain ⟨p, us, rfl, hp, rr⟩ := lsW_ok s r1 e0
      exact .inl ⟨.ref p, us.length, rfl, .inl ⟨us, SqL.of hp, rfl⟩, same_end s (by rw [rr.length]; simp [VR]) q⟩
    · split at h
      · rename_i kvs e0
        cases h
        obtain ⟨p, us, rfl, hp, rr⟩ := dcW_ok s r1 e0
        refine .inr ⟨p, us, rfl, hp, same_end s ?_ q⟩
        have : kvs.length = us.length := by have := congrArg List.length rr.1; simpa using this
        rw [this]; simp [VR]
      · cases h
  · cases h
theorem snd_abs : SndN K mg absN (fun xs H Q => ∃ i, xs = [.int i] ∧ Q (.int (if i < 0 then -i else i)) H) := fun ws S u S' H φ vs Q s r h q => by
  unfold absN at h
  split at h
  · rename_i i
    obtain ⟨v, rfl, r1⟩ := one r
    cases h; cases vint r1
    exact ⟨i, rfl, same_end s (by simp [VR]) q⟩
  · cases h
theorem snd_int : SndN K mg intN (fun xs H Q => (∃ i, xs = [.int i] ∧ Q (.int i) H) ∨ ∃ k, xs = [.bl k] ∧ Q (.int (if k then 1 else 0)) H) := fun ws S u S' H φ vs Q s r h q => by
  unfold intN at h
  split at h
  · rename_i i
    obtain ⟨v, rfl, r1⟩ := one r
    cases h; cases vint r1
    exact .inl ⟨i, rfl, same_end s (by simp [VR]) q⟩
  · rename_i b
    obtain ⟨v, rfl, r1⟩ := one r
    cases h; cases (show v = .bl b from r1)
    exact .inr ⟨b, rfl, same_end s (by simp [VR]) q⟩
  · cases h
def rStrM : List V → Hp → VK → Prop := fun xs H Q => (∃ i, xs = [.int i] ∧ i.natAbs.log2 < 1920 ∧ Q (.str (toString i)) H) ∨ (∃ a, xs = [.str a] ∧ Q (.str a) H) ∨ ∃ b, xs = [.bl b] ∧ Q (.str (if b then "True" else "False")) H
theorem call_str_bool {X : Cx} : CallR X (.type "str") (fun xs H Q => ∃ b, xs = [.bl b] ∧ Q (.str (if b then "True" else "False")) H) := by
  intro pins s σ H xs us Q I r h
  obtain ⟨b, rfl, q⟩ := h
  obtain ⟨u, rfl, r1⟩ := vals1 r
  cases r1
  exact PySem.P.str_of_bool ⟨.str _, H, I.tok _, ⟨_, rfl⟩, q⟩
theorem call_strM {X : Cx} : CallR X (.type "str") rStrM := CallR.or call_str_int (CallR.or SkE.call_str_str call_str_bool)
theorem log2_big {i : Int} (h : -big ≤ i ∧ i < big) : i.natAbs.log2 < 1920 := by
  have h1 : i.natAbs < 2 ^ 63 := by
    rw [big_def] at h
    omega
  by_cases h0 : i.natAbs = 0
  · rw [h0]; decide
  · have := (Nat.log2_lt h0).mpr h1
    omega
theorem snd_str : SndN K mg strN rStrM := fun ws S u S' H φ vs Q s r h q => by
  unfold strN at h
  split at h
  · rename_i i
    obtain ⟨v, rfl, r1⟩ := one r
    split at h
    · rename_i hz
      cases h; cases vint r1
      exact .inl ⟨i, rfl, log2_big hz, same_end s (by simp [VR]) q⟩
    · cases h
  · rename_i x
    obtain ⟨v, rfl, r1⟩ := one r
    cases h; cases vstr r1
    exact .inr (.inl ⟨x, rfl, same_end s (by simp [VR]) q⟩)
  · rename_i b
    obtain ⟨v, rfl, r1⟩ := one r
    cases h
    cases (show v = .bl b from r1)
    exact .inr (.inr ⟨b, rfl, same_end s (by simp [VR]) q⟩)
  · cases h
theorem snd_ord : SndN K mg ordN (fun xs H Q => ∃ x, xs = [.str x] ∧ x.length = 1 ∧ Q (.int (x.cps.getD 0 0 : Nat)) H) := fun ws S u S' H φ vs Q s r h q => by
  unfold ordN at h
  split at h
  · rename_i x
    obtain ⟨v, rfl, r1⟩ := one r
    split at h
    · rename_i hz
      cases h; cases vstr r1
      exact ⟨x, rfl, hz, same_end s (by simp [VR]) q⟩
    · cases h
  · cases h
theorem snd_min : SndN K mg minN (fun xs H Q => ∃ i j, xs = [.int i, .int j] ∧ Q (.int (if j < i then j else i)) H) := fun ws S u S' H φ vs Q s r h q => by
  unfold minN at h
  split at h
  · rename_i i j
    obtain ⟨v, w, rfl, r1, r2⟩ := two r
    cases h; cases vint r1; cases vint r2
    exact ⟨i, j, rfl, same_end s (by simp [VR]) q⟩
  · cases h
theorem snd_max : SndN K mg maxN (fun xs H Q => ∃ i j, xs = [.int i, .int j] ∧ Q (.int (if j > i then j else i)) H) := fun ws S u S' H φ vs Q s r h q => by
  unfold maxN at h
  split at h
  · rename_i i j
    obtain ⟨v, w, rfl, r1, r2⟩ := two r
    cases h; cases vint r1; cases vint r2
    exact ⟨i, j, rfl, same_end s (by simp [VR]) q⟩
  · cases h
def rListM (K : PySem.W.Frag) : List V → Hp → VK → Prop := fun xs H Q => (∃ p ys, xs = [.ref p] ∧ (SqL K H p ys ∨ SqT K H p ys) ∧ ∀ l, H l = none → Q (.ref l) (upd H l (.lst ys))) ∨ rListD xs H Q
theorem call_listM {X : Cx} (hc : X.calm = true) : CallR X (.type "list") (rListM X.K) := CallR.or call_list_of (call_list_dK hc)
theorem vkeys : ∀ {kvs : List (Key × W)} {us : List (Key × V)}, kvs.map (·.1) = us.map (·.1) → VRs K mg H φ (kvs.map fun kv => kW kv.1) (us.map fun kv => kV kv.1)
  | [], us, h => by
    have : us = [] := by simpa using h.symm
    subst this
    exact .nil
  | (k, w) :: kvs, us, h => by
    cases us with
    | nil => cases h
    | cons p us =>
      obtain ⟨k', v⟩ := p
      simp only [List.map_cons, List.cons.injEq] at h
      obtain ⟨e, h⟩ := h
      subst e
      refine .cons ?_ (vkeys h)
      cases k <;> simp [kW, kV, VR]
theorem snd_list {m : Bool} : SndN K mg (listN m) (rListM K) := fun ws S u S' H φ vs Q s r h q => by
  unfold listN at h
  split at h
  · rename_i xs
    obtain ⟨v, rfl, r1⟩ := one r
    have e := Option.some.inj h
    obtain ⟨p, us, rfl, t, rr⟩ := vtup r1
    exact .inl ⟨p, us, rfl, .inr t.sq, new_lst (m := m) s rr (by rw [e]; exact q)⟩
  · rename_i ns
    obtain ⟨v, rfl, r1⟩ := one r
    have e := Option.some.inj h
    obtain ⟨p, rfl, t⟩ := vscr r1
    exact .inl ⟨p, _, rfl, .inl t.sq, new_lst (m := m) s (VRs.ints ns) (by rw [e]; exact q)⟩
  · obtain ⟨v, rfl, r1⟩ := one r
    split at h
    · rename_i xs e0
      have e := Option.some.inj h
      obtain ⟨p, us, rfl, hp, rr⟩ := lsW_ok s r1 e0
      exact .inl ⟨p, us, rfl, .inl (SqL.of hp), new_lst (m := m) s rr (by rw [e]; exact q)⟩
    · split at h
      · rename_i kvs e0
        have e := Option.some.inj h
        obtain ⟨p, us, rfl, hp, rr⟩ := dcW_ok s r1 e0
        exact .inr ⟨p, us, rfl, hp, new_lst (m := m) s (vkeys rr.1) (by rw [e]; exact q)⟩
      · cases h
  · cases h
theorem snd_tuple : SndN K mg tupleN (fun xs H Q => ∃ p ys, xs = [.ref p] ∧ ((SqL K H p ys ∧ ∀ l, H l = none → Q (.ref l) (upd H l (.tup ys))) ∨ (SqT K H p ys ∧ Q (.ref p) H))) := fun ws S u S' H φ vs Q s r h q => by
  unfold tupleN at h
  split at h
  · rename_i xs
    obtain ⟨v, rfl, r1⟩ := one r
    cases h
    obtain ⟨p, us, rfl, t, rr⟩ := vtup r1
    exact ⟨p, us, rfl, .inr ⟨t.sq, same_end s r1 q⟩⟩
  · obtain ⟨v, rfl, r1⟩ := one r
    split at h
    · rename_i xs e0
      cases h
      obtain ⟨p, us, rfl, hp, rr⟩ := lsW_ok s r1 e0
      refine ⟨p, us, rfl, .inl ⟨SqL.of hp, fun l hl => ?_⟩⟩
      obtain ⟨x, s'⟩ := s.extra (o := .tup us) hl
      exact q _ _ _ x s' (by simp only [VR]; exact ⟨l, us, rfl, .inl upd_same, rr.mono x⟩)
    · cases h
  · cases h
theorem bls_ok : ∀ {ws : List W} {vs : List V} {bs : List Bool}, VRs K mg H φ ws vs → blsW ws = some bs → vs = bs.map V.bl
  | [], vs, bs, r, h => by cases h; simp only [VRs] at r; subst r; rfl
  | w :: ws, vs, bs, r, h => by
    simp only [VRs] at r
    obtain ⟨v, r', rfl, r1, r2⟩ := r
    cases w with
    | bl b =>
      simp only [blsW, Option.map_eq_some_iff] at h
      obtain ⟨cs, h1, rfl⟩ := h
      cases (show v = .bl b from r1)
      rw [bls_ok r2 h1]; rfl
    | _ => cases h
theorem strs_ok : ∀ {ws : List W} {vs : List V} {bs : List Str}, VRs K mg H φ ws vs → strsW ws = some bs → vs = bs.map V.str
  | [], vs, bs, r, h => by cases h; simp only [VRs] at r; subst r; rfl
  | w :: ws, vs, bs, r, h => by
    simp only [VRs] at r
    obtain ⟨v, r', rfl, r1, r2⟩ := r
    cases w with
    | str b =>
      simp only [strsW, Option.map_eq_some_iff] at h
      obtain ⟨cs, h1, rfl⟩ := h
      cases vstr r1
      rw [strs_ok r2 h1]; rfl
    | _ => cases h
theorem snd_any : SndN K mg anyN (rAny K) := fun ws S u S' H φ vs Q s r h q => by
  unfold anyN at h
  split at h
  · obtain ⟨v, rfl, r1⟩ := one r
    split at h
    · rename_i xs e0
      simp only [Option.map_eq_some_iff] at h
      obtain ⟨bs, h1, h2⟩ := h
      cases h2
      obtain ⟨p, us, rfl, hp, rr⟩ := lsW_ok s r1 e0
      have e := bls_ok rr h1
      subst e
      exact ⟨p, bs, rfl, SqL.of hp, same_end s (by simp [VR]) q⟩
    · cases h
  · cases h
theorem snd_all : SndN K mg allN (rAll K) := fun ws S u S' H φ vs Q s r h q => by
  unfold allN at h
  split at h
  · obtain ⟨v, rfl, r1⟩ := one r
    split at h
    · rename_i xs e0
      simp only [Option.map_eq_some_iff] at h
      obtain ⟨bs, h1, h2⟩ := h
      cases h2
      obtain ⟨p, us, rfl, hp, rr⟩ := lsW_ok s r1 e0
      have e := bls_ok rr h1
      subst e
      exact ⟨p, bs, rfl, SqL.of hp, same_end s (by simp [VR]) q⟩
    · cases h
  · cases h
/-! ### methods -/
def SndM (K : PySem.W.Frag) (mg : Str → Option Value) (f : W → PN) (r : V → List V → Hp → VK → Prop) : Prop := ∀ x ws S u S' H φ v vs Q, SR K mg H φ S → VR K mg H φ x v → VRs K mg H φ ws vs → f x ws S = some (u, S') →
  (∀ z H' φ', Ext H H' φ φ' → SR K mg H' φ' S' → VR K mg H' φ' u z → Q z H') → r v vs H Q
theorem tyM_ok {T : String} {x : W} {v : V} (s : SR K mg H φ S) (r : VR K mg H φ x v) (h : tyM T x S = true) : tyV K T v H := by
  cases x with
  | str z => cases vstr r; simp only [tyM, decide_eq_true_eq] at h; exact h
  | lst xs =>
    simp only [tyM, decide_eq_true_eq] at h
    simp only [VR] at r
    obtain ⟨p, vs, rfl, t, rr⟩ := r
    exact .inl ⟨h, vs, SqL.of t.2⟩
  | dic ks ws =>
    simp only [tyM, decide_eq_true_eq] at h
    simp only [VR] at r
    obtain ⟨p, us, rfl, _, t, _⟩ := r
    exact .inr (.inr (.inl ⟨h, .inl ⟨us, t⟩⟩))
  | ref a =>
    simp only [tyM] at h
    split at h
    · rename_i xs e0
      obtain ⟨p, us, rfl, t, hp, rr⟩ := vlst s r e0
      exact .inl ⟨of_decide_eq_true h, us, SqL.of hp⟩
    · rename_i kvs e0
      obtain ⟨p, us, rfl, t, hp, rr⟩ := vdic s r e0
      exact .inr (.inr (.inl ⟨of_decide_eq_true h, .inl ⟨us, hp⟩⟩))
    · cases h
  | _ => cases h
theorem meth_read {Wx : WX} {T : String} {f : W → PN} {r : V → List V → Hp → VK → Prop} {O : EM} {As : List EM} {σ : L2.St} {H : Hp} {Q : VK} (hf : SndM K mg f r) (h : rE K mg Wx (eMeth T f O As) σ H Q) : tBM K T r (rE K mg Wx O) (rA K mg Wx (evs As)) σ H Q := by
  obtain ⟨e, S, φ, er, sr, q⟩ := h
  refine ⟨e, S, φ, er, sr, PostR.bind q fun w S1 v H1 φ1 x1 s1 r1 q1 => ?_⟩
  cases ht : tyM T w S1 with
  | false => rw [ht, if_neg Bool.false_ne_true] at q1; exact q1.elim
  | true =>
    rw [ht, if_pos rfl] at q1
    refine ⟨tyM_ok s1 r1 ht, e, S1, φ1, er.mono x1, s1, q1.bind fun ws S2 vs H2 φ2 x2 s2 r2 q2 => ?_⟩
    obtain ⟨u, S', h1, h2⟩ := post_lift q2
    exact hf w ws S2 u S' H2 φ2 v vs Q s2 (r1.mono x2) r2 h1 h2
end
section
variable {X : Cx} {Wx : WX} {a b c o : Expr} {A B O : EM} {pos apos cpos : Pos} {es : List Expr} {As : List EM}
theorem m_bm {T id : String} {name : Str} {f : W → PN} {r : V → List V → Hp → VK → Prop} (pa : PlainAttrs T) (slot : Slot T name id) (hty : typeOf (.builtin id) = pure (.type "method_descriptor")) (hm : MtR X id r) (hf : SndM X.K X.mg f r) (ho : ME X Wx o O) (ha : MA X Wx (a :: es) (evs As))
    (hbase : attributeBase o name X.env (eval o X.env) = eval o X.env := by rfl)
    (hfew : ((backTo cpos (starEach (a :: es) X.env)).all (fun x => !x.1) && (backToKw cpos (keywordEach [] X.env)).all (fun x => x.1.isSome)
      && decide ((a :: es).length + ([] : List Keyword).length + (if ([] : List Keyword).isEmpty then 0 else 1) < 30)) = true := by rfl)
    (hline : (apos.endLine == cpos.line) = true := by rfl) (hs : starEach (a :: es) X.env = (false, eval a X.env) :: starEach es X.env := by rfl) (hplain : (backTo cpos (starEach es X.env)).any (·.1) = false := by rfl) :
    ME X Wx (.Call (.Attribute o name apos) (a :: es) [] cpos) (eMeth T f O As) := leE (pe_bm pa slot hty hm ho ha hbase hfew hline hs hplain) fun σ H Q h => meth_read hf h
theorem m_bm0 {T id : String} {name : Str} {f : W → PN} {r : V → List V → Hp → VK → Prop} (pa : PlainAttrs T) (slot : Slot T name id) (hty : typeOf (.builtin id) = pure (.type "method_descriptor")) (hm : MtR X id r) (hf : SndM X.K X.mg f r) (ho : ME X Wx o O)
    (hbase : attributeBase o name X.env (eval o X.env) = eval o X.env := by rfl) (hline : (apos.endLine == cpos.line) = true := by rfl) : ME X Wx (.Call (.Attribute o name apos) [] [] cpos) (eMeth T f O []) :=
  leE (pe_bm0 pa slot hty hm ho hbase hline) fun σ H Q h => by
    have q := meth_read hf h
    obtain ⟨e, S, φ, er, sr, q⟩ := h
    refine ⟨e, S, φ, er, sr, PostR.bind q fun w S1 v H1 φ1 x1 s1 r1 q1 => ?_⟩
    cases ht : tyM T w S1 with
    | false => rw [ht, if_neg Bool.false_ne_true] at q1; exact q1.elim
    | true =>
      rw [ht, if_pos rfl] at q1
      refine ⟨tyM_ok s1 r1 ht, ?_⟩
      simp only [evs, R.bind_ok] at q1
      obtain ⟨u, S', h1, h2⟩ := post_lift q1
      exact hf w [] S1 u S' H1 φ1 v [] Q s1 r1 .nil h1 h2
end
section
variable {K : PySem.W.Frag} {mg : Str → Option Value} {H : Hp} {φ : Fi} {S : Store}
theorem snd_append : SndM K mg appendM rAppend := fun x ws S u S' H φ v vs Q s rx r h q => by
  unfold appendM at h
  split at h
  · rename_i a w
    split at h
    · rename_i xs e0
      split at h
      · rename_i hz
        cases h
        obtain ⟨p, us, rfl, t, hp, rr⟩ := vlst s rx e0
        obtain ⟨z, rfl, rz⟩ := one r
        obtain ⟨x, s'⟩ := s.write (ob := .lst (xs ++ [w])) (o := .lst (us ++ [z])) t fun H' φ' x e => ⟨_, e, (rr.mono x).append (.one (rz.mono x))⟩
        exact ⟨p, us, z, rfl, rfl, hp, by rw [← rr.length]; exact hz, q _ _ _ x s' (by simp [VR])⟩
      · cases h
    · cases h
  · cases h
theorem VRs.dropLast : ∀ {ws : List W} {vs : List V}, VRs K mg H φ ws vs → VRs K mg H φ ws.dropLast vs.dropLast := fun {ws vs} r => by
  rw [List.dropLast_eq_take, List.dropLast_eq_take, ← r.length]
  exact r.take _
theorem snd_pop : SndM K mg popM rPop := fun x ws S u S' H φ v vs Q s rx r h q => by
  unfold popM at h
  split at h
  · rename_i a
    split at h
    · rename_i xs e0
      split at h
      · rename_i w ew
        cases h
        obtain ⟨p, us, rfl, t, hp, rr⟩ := vlst s rx e0
        have := nil0 r
        subst this
        obtain ⟨z, ez, rz⟩ := rr.get ew
        obtain ⟨x, s'⟩ := s.write (ob := .lst xs.dropLast) (o := .lst us.dropLast) t fun H' φ' x e => ⟨_, e, (rr.mono x).dropLast⟩
        exact ⟨p, us, z, rfl, rfl, hp, by rw [← rr.length]; exact ez, q _ _ _ x s' (rz.mono x)⟩
      · cases h
    · cases h
  · cases h
def rJoinM (K : PySem.W.Frag) : V → List V → Hp → VK → Prop := fun x xs H Q => ∃ a p, ∃ ys : List Str, x = .str a ∧ xs = [.ref p] ∧ (SqL K H p (ys.map V.str) ∨ SqT K H p (ys.map V.str)) ∧
    (ys.map (·.length)).sum + ys.length * a.length ≤ 16777216 ∧ Q (.str (Txt.join a ys)) H
theorem snd_join : SndM K mg joinM (rJoinM K) := fun x ws S u S' H φ v vs Q s rx r h q => by
  unfold joinM at h
  split at h
  · rename_i t ys
    split at h
    · rename_i zs e1
      split at h
      · rename_i hz
        cases h
        cases vstr rx
        obtain ⟨z, rfl, rz⟩ := one r
        obtain ⟨p, us, rfl, t, rr⟩ := vtup rz
        have e := strs_ok rr e1
        subst e
        exact ⟨_, p, zs, rfl, rfl, .inr t.sq, hz, same_end s (by simp [VR]) q⟩
      · cases h
    · cases h
  · rename_i t b _
    split at h
    · rename_i ys e0
      split at h
      · rename_i zs e1
        split at h
        · rename_i hz
          cases h
          cases vstr rx
          obtain ⟨z, rfl, rz⟩ := one r
          obtain ⟨p, us, rfl, hp, rr⟩ := lsW_ok s rz e0
          have e := strs_ok rr e1
          subst e
          exact ⟨_, p, zs, rfl, rfl, .inl (SqL.of hp), hz, same_end s (by simp [VR]) q⟩
        · cases h
      · cases h
    · cases h
  · cases h
theorem snd_split {m : Bool} : SndM K mg (splitM m) (fun x xs H Q => ∃ a b, x = .str a ∧ xs = [.str b] ∧ (b.length == 0) = false ∧ a.length + 2 ≤ sizeLine ∧ rNewStrs (Txt.split a b) H Q) := fun x ws S u S' H φ v vs Q s rx r h q => by
  unfold splitM at h
  split at h
  · rename_i t b
    split at h
    · rename_i hz
      have e := Option.some.inj h
      cases vstr rx
      obtain ⟨z, rfl, rz⟩ := one r
      cases vstr rz
      exact ⟨t, b, rfl, rfl, by simpa using hz.1, hz.2, new_lst (m := m) s (VRs.strs _) (by rw [e]; exact q)⟩
    · cases h
  · cases h
theorem mergeW_ok : ∀ {more : List (Key × W)} {ms : List (Key × V)} {kvs : List (Key × W)} {us : List (Key × V)}, KVR K mg H φ kvs us → KVR K mg H φ more ms → KVR K mg H φ (mergeW kvs more) (mergeK us ms)
  | [], ms, kvs, us, h, h' => by
    have : ms = [] := by simpa using h'.1.symm
    subst this
    exact h
  | (k, w) :: more, ms, kvs, us, h, h' => by
    obtain ⟨h1, h2⟩ := h'
    cases ms with
    | nil => cases h1
    | cons p ms =>
      obtain ⟨k', v⟩ := p
      simp only [List.map_cons, List.cons.injEq] at h1
      obtain ⟨e1, e2⟩ := h1
      subst e1
      have h2' : VRs K mg H φ (w :: more.map (·.2)) (v :: ms.map (·.2)) := h2
      simp only [VRs] at h2'
      obtain ⟨v', r', e3, r1, r2⟩ := h2'
      cases e3
      exact mergeW_ok (kvs := putW kvs k w) (us := putK us k v) (putW_ok h r1) ⟨e2, r2⟩
end
/-- d.update(e) -/
def rUpdD : V → List V → Hp → VK → Prop := fun x xs H Q => ∃ a b kvs more, x = .ref a ∧ xs = [.ref b] ∧ a ≠ b ∧ H a = some (.dK kvs) ∧ H b = some (.dK more) ∧ kvs.length + more.length ≤ sizeLine ∧ Q .non (upd H a (.dK (mergeK kvs more)))
theorem mt_update {X : Cx} : MtR X "dict.update" rUpdD := by
  intro pins s σ H x xs v us Q I rx rs h
  obtain ⟨a, b, kvs, more, rfl, rfl, hne, ha, hb, hz, q⟩ := h
  cases rx
  obtain ⟨u, rfl, ru⟩ := vals1 rs
  cases ru
  obtain ⟨z1, d1, vs1, r1, dd1⟩ := dk_of I.hok ha
  obtain ⟨z2, d2, vs2, r2, dd2⟩ := dk_of I.hok hb
  have hz' : vs1.length + vs2.length ≤ sizeLine := by rw [← r1.length, ← r2.length]; exact hz
  refine call_meetsIn PySem.F.slot_dict_update dd1.typeIs PySem.F.entry_dict_update (PySem.F.args_dict_update_2 _ _) (PySem.meets_dict_update (mixKind X.prog X.w) a b hne d2) ⟨_, _, dd1, dd2, hz', fun h' hmm h3 hs => ?_⟩
  have he : ∃ q, h'.get? a = some q := let ⟨q, _, _, hq, _⟩ := hmm; ⟨q, hq⟩
  have hz2 : (mergeK kvs more).length ≤ sizeLine := Nat.le_trans (length_mergeK more kvs) hz
  exact ⟨.non, _, d_write (t' := s.toks) I (by rw [ha]; exact True.intro) hs he (dk_new hz2 d1 (r2.merge r1) hmm), rfl, q⟩
section
variable {K : PySem.W.Frag} {mg : Str → Option Value} {H : Hp} {φ : Fi} {S : Store}
theorem snd_update : SndM K mg updateM rUpdD := fun x ws S u S' H φ v vs Q s rx r h q => by
  unfold updateM at h
  split at h
  · rename_i a y
    split at h
    · rename_i kvs more e0 e1
      split at h
      · rename_i hz
        cases h
        obtain ⟨p, us, rfl, t, hp, rr⟩ := vdic s rx e0
        obtain ⟨z, rfl, rz⟩ := one r
        obtain ⟨p', us', rfl, hp', rr'⟩ := dcW_ok s rz e1
        obtain ⟨x, s'⟩ := s.write (ob := .dic (mergeW kvs more)) (o := .dK (mergeK us us')) t fun H' φ' x e => ⟨_, e, mergeW_ok (rr.mono x) (rr'.mono x)⟩
        have l1 : kvs.length = us.length := by have := congrArg List.length rr.1; simpa using this
        have l2 : more.length = us'.length := by have := congrArg List.length rr'.1; simpa using this
        refine ⟨p, p', us, us', rfl, rfl, fun e => ?_, hp, hp', by rw [← l1, ← l2]; exact hz.2, q _ _ _ x s' (by simp [VR])⟩
        subst e
        cases y with
        | ref b =>
          obtain ⟨p2, e2, t2⟩ := vref rz
          cases e2
          have := hz.1
          simp only [neqR, decide_eq_true_eq] at this
          exact this ((List.getElem?_inj (List.getElem?_eq_some_iff.mp t).1 s.nd).mp (t.trans t2.symm))
        | dic ks ws =>
          simp only [VR] at rz
          obtain ⟨p2, _, e2, o2, _⟩ := rz
          cases e2
          exact o2.1 (List.mem_of_getElem? t)
        | _ => cases e1
      · cases h
    · cases h
  · cases h

/-! ### slices -/
theorem cutL_eq {xs : List V} {lo hi : Option Int} : cutL xs lo hi = cutV xs lo hi := rfl
theorem VRs.cut {ws : List W} {vs : List V} (r : VRs K mg H φ ws vs) (lo hi : Option Int) : VRs K mg H φ (cutL ws lo hi) (cutV vs lo hi) := by
  unfold cutL cutV
  rw [r.length]
  exact (r.drop _).take _
theorem cutL_map {α β : Type} (f : α → β) (xs : List α) (lo hi : Option Int) : cutL (xs.map f) lo hi = (cutL xs lo hi).map f := by
  unfold cutL
  rw [List.length_map, List.map_take, List.map_drop]
def rSlM (K : PySem.W.Frag) : V → Option Int → Option Int → Hp → VK → Prop := fun x lo hi H Q => rSlL K x lo hi H Q ∨ (rSlA K x lo hi H Q ∨ rSlS x lo hi H Q)
theorem sl_M {X : Cx} : SlR X (rSlM X.K) := SlR.or sl_list (SlR.or sl_tupA sl_str)
theorem cut_whole {ws : List W} {lo hi : Option Int} {n : Nat} (e : ws.length = n) (h : HT.sIx n 0 lo = 0 ∧ HT.sIx n n hi = n) : cutL ws lo hi = ws := by
  unfold cutL
  rw [e, h.1, h.2, List.drop_zero, Nat.sub_zero, ← e, List.take_length]
theorem cut_ok {m : Bool} {x u : W} {v : V} {S' : Store} {lo hi : Option Int} {Q : VK} (s : SR K mg H φ S) (r : VR K mg H φ x v) (h : cutW m x lo hi S = some (u, S'))
    (q : ∀ z H' φ', Ext H H' φ φ' → SR K mg H' φ' S' → VR K mg H' φ' u z → Q z H') : rSlM K v lo hi H Q := by
  unfold cutW at h
  split at h
  · rename_i xs
    cases h
    obtain ⟨p, us, rfl, t, rr⟩ := vtup r
    refine .inr (.inl ⟨p, us, rfl, t.sq, fun hw => ?_, fun hw p' hp' => ?_⟩)
    · rw [cut_whole rr.length hw] at q
      exact same_end s r q
    · obtain ⟨x, s'⟩ := s.extra (o := .tup (cutV us lo hi)) hp'
      exact q _ _ _ x s' (by simp only [VR]; exact ⟨p', _, rfl, .inl upd_same, (rr.cut lo hi).mono x⟩)
  · rename_i ns
    have e := Option.some.inj h
    obtain ⟨p, rfl, t⟩ := vscr r
    have rr : VRs K mg H φ (ns.map W.int) (ns.map V.int) := VRs.ints ns
    have r2 := rr.cut lo hi
    rw [cutL_map] at r2
    exact .inl ⟨p, _, rfl, t.sq, new_lst (m := m) s r2 (by rw [e]; exact q)⟩
  · rename_i z
    split at h
    · rename_i hz
      cases h
      cases vstr r
      exact .inr (.inr ⟨z, rfl, hz, same_end s (by simp [VR]) q⟩)
    · cases h
  · split at h
    · rename_i xs e0
      have e := Option.some.inj h
      obtain ⟨p, us, rfl, hp, rr⟩ := lsW_ok s r e0
      exact .inl ⟨p, us, rfl, SqL.of hp, new_lst (m := m) s (rr.cut lo hi) (by rw [e]; exact q)⟩
    · cases h
end
section
variable {X : Cx} {Wx : WX} {a b c o : Expr} {A B O : EM} {pos apos cpos : Pos} {es : List Expr} {As : List EM} {lo hi : Option Expr} {L U : OM}
/-- a slice's part -/
def rO (K : PySem.W.Frag) (mg : Str → Option Value) (Wx : WX) (m : OM) : TO := fun σ H Q => ∃ e S φ, ER K mg H φ e σ ∧ SR K mg H φ S ∧ PostR K mg Wx (fun _ _ a b => a = b) σ H φ Q (evO m e S)
abbrev MO (X : Cx) (Wx : WX) (x : Option Expr) (m : OM) : Prop := PO X x (rO X.K X.mg Wx m)
theorem leO {X : Cx} {x : Option Expr} {t t' : TO} (h : PO X x t) (g : ∀ σ H Q, t' σ H Q → t σ H Q) : PO X x t' := ⟨fun pins s σ H Q I q => h.run pins s σ H Q I (g σ H Q q)⟩
theorem mo_none : MO X Wx none none := leO po_none fun σ H Q ⟨e, S, φ, er, sr, q⟩ => PostR.ok_at (a := (none : Option Int)) q sr rfl
theorem mo_some (h : ME X Wx a A) : MO X Wx (some a) (some A) := leO (po_some h) fun σ H Q ⟨e, S, φ, er, sr, q⟩ => ⟨e, S, φ, er, sr, PostR.bind q fun w S1 v H1 φ1 x1 s1 r1 q1 => by
  cases w with
  | int i => cases vint r1; exact ⟨i, rfl, PostR.ok_at (a := some i) q1 s1 rfl⟩
  | _ => exact q1.elim⟩
theorem m_cut {m : Bool} {p2 : Pos} (ha : ME X Wx a A) (hl : MO X Wx lo L) (hu : MO X Wx hi U) : ME X Wx (.Subscript a (.Slice lo hi none p2) pos) (eCut m A L U) :=
  leE (pe_slice sl_M ha hl hu) fun σ H Q ⟨e, S, φ, er, sr, q⟩ => ⟨e, S, φ, er, sr, PostR.bind q fun w S1 v H1 φ1 x1 s1 r1 q1 => ⟨e, S1, φ1, er.mono x1, s1, PostR.bind q1 fun l S2 l' H2 φ2 x2 s2 r2 q2 => ⟨e, S2, φ2, (er.mono x1).mono x2, s2, PostR.bind q2 fun u S3 u' H3 φ3 x3 s3 r3 q3 => by
    subst r2 r3
    obtain ⟨z, S', h1, h2⟩ := post_lift q3
    exact cut_ok s3 ((r1.mono x2).mono x3) h1 h2⟩⟩⟩

/-! ### displays of dicts -/
def flat (prs : List (EM × EM)) : List EM := prs.flatMap fun p => [p.1, p.2]
def flatV (ps : List (V × V)) : List V := ps.flatMap fun p => [p.1, p.2]
abbrev MPs (X : Cx) (Wx : WX) (pos : Pos) (ks : List (Option Expr)) (vs : List Expr) (prs : List (EM × EM)) : Prop := PPs X pos ks vs (prs.map fun p => (rE X.K X.mg Wx p.1, rE X.K X.mg Wx p.2))
theorem mps_nil : MPs X Wx pos [] [] [] := pps_nil
theorem mps_cons {k v : Expr} {ks : List (Option Expr)} {vs : List Expr} {M N : EM} {prs : List (EM × EM)} (hk : ME X Wx k M) (hv : ME X Wx v N) (hr : MPs X Wx pos ks vs prs) : MPs X Wx pos (some k :: ks) (v :: vs) ((M, N) :: prs) := pps_cons hk hv hr
theorem pairs_read {K : PySem.W.Frag} {mg : Str → Option Value} : ∀ {prs : List (EM × EM)} {e : En} {S : Store} {σ : L2.St} {H : Hp} {φ : Fi} {G : List V → Hp → Prop} {P : List (V × V) → Hp → Prop}, (∀ ps H', G (flatV ps) H' → P ps H') → ER K mg H φ e σ → SR K mg H φ S → PostR K mg Wx (VRs K mg) σ H φ G (evs (flat prs) e S) →
    tPairs (prs.map fun p => (rE K mg Wx p.1, rE K mg Wx p.2)) σ H P
  | [], e, S, σ, H, φ, G, P, hG, er, sr, q => hG [] H (PostR.ok_at q sr .nil)
  | (M, N) :: prs, e, S, σ, H, φ, G, P, hG, er, sr, q => ⟨e, S, φ, er, sr, PostR.bind q fun w S1 v H1 φ1 x1 s1 r1 q1 => by
    have q1' : PostR K mg Wx (VRs K mg) σ H1 φ1 G ((N e S1).bind fun y S2 => ((evs (flat prs) e S2).bind fun xs S3 => R.ok (y :: xs) S3).bind fun xs S3 => R.ok (w :: xs) S3) := by
      have e0 : (evs (N :: flat prs) e S1).bind (fun xs S2 => R.ok (w :: xs) S2) = (N e S1).bind fun y S2 => ((evs (flat prs) e S2).bind fun xs S3 => R.ok (y :: xs) S3).bind fun xs S3 => R.ok (w :: xs) S3 := by
        show ((N e S1).bind fun y S2 => (evs (flat prs) e S2).bind fun xs S3 => R.ok (y :: xs) S3).bind (fun xs S2 => R.ok (w :: xs) S2) = _
        cases N e S1 <;> rfl
      rw [← e0]; exact q1
    refine ⟨e, S1, φ1, er.mono x1, s1, PostR.bind q1' fun y S2 v2 H2 φ2 x2 s2 r2 q2 => ?_⟩
    refine pairs_read (prs := prs) (G := fun vs H' => G (v :: v2 :: vs) H') (fun ps H' g => hG ((v, v2) :: ps) H' g) ((er.mono x1).mono x2) s2 ?_
    cases he : evs (flat prs) e S2 with
    | bad => rw [he] at q2; exact q2.elim
    | exc z S3 => rw [he] at q2; exact q2
    | ok xs S3 =>
      rw [he] at q2
      intro vs H3 φ3 x3 s3 r3
      exact q2 _ H3 φ3 x3 s3 (.cons ((r1.mono x2).mono x3) (.cons (r2.mono x3) r3))⟩
theorem dicKV_ok {K : PySem.W.Frag} {mg : Str → Option Value} {H : Hp} {φ : Fi} : ∀ {ws : List W} {ps : List (V × V)} {kvs : List (Key × W)}, VRs K mg H φ ws (flatV ps) → dicKV ws = some kvs → ∃ us : List (Key × V), ps = us.map (fun kv => (kV kv.1, kv.2)) ∧ KVR K mg H φ kvs us
  | [], ps, kvs, r, h => by
    cases h
    simp only [VRs] at r
    cases ps with
    | nil => exact ⟨[], rfl, rfl, .nil⟩
    | cons p ps => cases r
  | [_], ps, kvs, r, h => by cases h
  | k :: w :: ws, ps, kvs, r, h => by
    cases ps with
    | nil => simp only [VRs] at r; obtain ⟨v, r', e, _⟩ := r; cases e
    | cons p ps =>
      obtain ⟨x, y⟩ := p
      have r' : VRs K mg H φ (k :: w :: ws) (x :: y :: flatV ps) := r
      simp only [VRs] at r'
      obtain ⟨v, t, e1, r1, v2, t2, e2, r2, r3⟩ := r'
      cases e1; cases e2
      simp only [dicKV] at h
      cases hk : keyW k with
      | none => rw [hk] at h; cases h
      | some k' =>
        cases hd : dicKV ws with
        | none => rw [hk, hd] at h; cases h
        | some kvs' =>
          rw [hk, hd] at h
          cases h
          obtain ⟨us, e3, e4, e5⟩ := dicKV_ok r3 hd
          subst e3
          refine ⟨(k', y) :: us, ?_, ?_, ?_⟩
          · rw [keyW_ok r1 hk]; rfl
          · simp only [List.map_cons, e4]
          · exact .cons r2 e5
theorem Ext.unhide {H H2 : Hp} {φ φ2 : Fi} {p : Addr} {o : HO} (hp : H p = none) (x : Ext (upd H p o) H2 (φ.hide p) φ2) : φ2 = Fi.hide ⟨φ2.t, φ.h⟩ p ∧ Ext H H2 φ ⟨φ2.t, φ.h⟩ := by
  refine ⟨?_, x.pre, rfl, fun q u h n => x.fr q u (by rw [upd_ne (ne_of_none h hp)]; exact h) n, fun q h n => ?_, fun q ys h => x.tup q ys (by rw [upd_ne (ne_of_none h hp)]; exact h), fun q u v h => x.frz q u v (by rw [upd_ne (ne_of_none h hp)]; exact h)⟩
  · obtain ⟨t2, h2⟩ := φ2
    have : h2 = p :: φ.h := x.hid
    subst this; rfl
  · have z := x.new q h n
    by_cases e : q = p
    · subst e; exact hp
    · rw [upd_ne e] at z; exact z
/-- the new object is written -/
theorem Ext.setNew {H H2 : Hp} {φ φ3 : Fi} {p : Addr} {o : HO} (hp : H p = none) (x : Ext H H2 φ φ3) : Ext H (upd H2 p o) φ φ3 :=
  ⟨x.pre, x.hid, fun q u h n => by rw [upd_ne (ne_of_none h hp)]; exact x.fr q u h n, x.new, fun q ys h => by rw [upd_ne (ne_of_none h hp)]; exact x.tup q ys h, fun q u v h => by rw [upd_ne (ne_of_none h hp)]; exact x.frz q u v h⟩
theorem Ext.grow {H H2 : Hp} {φ φ3 : Fi} {p : Addr} (hp : H p = none) (x : Ext H H2 φ φ3) : Ext H H2 φ ⟨φ3.t ++ [p], φ3.h⟩ := by
  obtain ⟨l, e⟩ := x.pre
  refine ⟨⟨l ++ [p], by show φ3.t ++ [p] = _; rw [e, List.append_assoc]⟩, x.hid, x.fr, fun q h n => ?_, x.tup, x.frz⟩
  rcases List.mem_append.mp (show q ∈ φ3.t ++ [p] from h) with z | z
  · exact x.new q z n
  · rw [List.mem_singleton.mp z]; exact hp
theorem XR.monoM {K : PySem.W.Frag} {mg : Str → Option Value} {H H' : Hp} {φ φ' : Fi} {x : Exn} {cls : Value} {d : Option Addr} (mo : Mon H H' φ φ') (he : ∀ p us, H p = some (.xd us) → H' p = some (.xd us)) (h : XR K mg H φ x cls d) : XR K mg H' φ' x cls d := by
  obtain ⟨C, m, e, h⟩ := h
  refine ⟨C, m, e, ?_⟩
  rcases h with h | ⟨dd, us, e0, e1, e2, e3⟩
  · exact .inl h
  · exact .inr ⟨dd, us, e0, e1, he _ _ e2, e3.monoM mo⟩
theorem m_disp {m : Bool} {ks : List (Option Expr)} {vs : List Expr} {prs : List (EM × EM)} (h : MPs X Wx pos ks vs prs) (hall : ks.all (·.isSome) = true := by rfl) (hl : ks.length = vs.length := by rfl) (h0 : ks ≠ [] := by exact List.cons_ne_nil _ _) (h15 : ks.length ≤ 15 := by decide) : ME X Wx (.Dict ks vs pos) (eN (dicN m) (flat prs)) :=
  leE (pe_disp h hall hl h0 h15) fun σ H Q ⟨e, S, φ, er, sr, q⟩ p hp => by
    obtain ⟨x0, s0⟩ := sr.hideNew (o := .dK []) hp
    refine pairs_read (Wx := Wx) (G := fun vs H2 => ∀ ps, vs = flatV ps → H2 p = some (.dK []) ∧ ∃ kvs : List (Key × V), ps = kvs.map (fun kv => (kV kv.1, kv.2)) ∧ kvs.length ≤ 15 ∧ Q (.ref p) (upd H2 p (.dK (mergeK [] kvs)))) (fun ps H2 g => g ps rfl) (ER.monoM x0 er) s0 ?_
    have q0 : PostR X.K X.mg Wx (VR X.K X.mg) σ H φ Q ((evs (flat prs) e S).bind fun xs S1 => lift (dicN m xs S1)) := q
    cases he : evs (flat prs) e S with
    | bad => rw [he] at q0; exact q0.elim
    | exc z S3 =>
      rw [he] at q0
      intro cls d H' φ' x s xr
      obtain ⟨ep, x'⟩ := x.unhide hp
      rw [ep] at s xr
      obtain ⟨mo, s'⟩ := s.show_
      exact q0 cls d H' _ x' s' (xr.monoM mo fun _ _ h => h)
    | ok xs S3 =>
      rw [he] at q0
      intro vs H2 φ2 x2 s2 r2 ps eps
      subst eps
      have hd : H2 p = some (.dK []) := x2.fr p _ upd_same (fun z => (sr.notin hp).1 z)
      obtain ⟨ep, x'⟩ := x2.unhide hp
      rw [ep] at s2 r2
      obtain ⟨u, S', h1, h2⟩ := post_lift q0
      simp only [dicN] at h1
      cases hk : dicKV xs with
      | none => rw [hk] at h1; cases h1
      | some kvs =>
        rw [hk] at h1
        dsimp only at h1
        split at h1
        · rename_i hz
          have e1 := Option.some.inj h1
          obtain ⟨us, e3, rk⟩ := dicKV_ok r2 hk
          have hl' : kvs.length = us.length := by have := congrArg List.length rk.1; simpa using this
          refine ⟨hd, us, e3, by omega, ?_⟩
          obtain ⟨mo, s3⟩ := s2.hideSet (o' := .dK (mergeK [] us)) hd rfl
          have rm := (mergeW_ok (K := X.K) (mg := X.mg) (H := H2) (φ := Fi.hide ⟨φ2.t, φ.h⟩ p) (kvs := []) (us := []) ⟨rfl, .nil⟩ rk).monoM mo
          have nt : p ∉ φ2.t := (s2.hd p List.mem_cons_self).1
          cases hm : m with
          | true =>
            subst hm
            have mo2 : Mon (upd H2 p (.dK (mergeK [] us))) (upd H2 p (.dK (mergeK [] us))) (Fi.hide ⟨φ2.t, φ.h⟩ p) ⟨φ2.t ++ [p], φ.h⟩ := ⟨⟨[p], rfl⟩, fun b u h n => ⟨h, fun z => by
              rcases List.mem_append.mp z with z | z
              · exact n.1 z
              · exact n.2 (by rw [List.mem_singleton.mp z]; exact List.mem_cons_self), fun z => n.2 (List.mem_cons_of_mem _ z)⟩, fun _ _ h => h, fun _ _ _ h => h⟩
            obtain ⟨_, s4, l4⟩ := s3.adopt (ob := .dic (mergeW [] kvs)) ⟨_, upd_same, rm.monoM mo2⟩ (fun z => (sr.notin hp).2 z)
            rw [mkD_t] at e1
            obtain ⟨e4, e5⟩ := Prod.mk.inj e1
            subst e4 e5
            exact h2 (.ref p) _ _ ((x'.setNew hp).grow hp) s4 (by simp only [VR]; exact ⟨p, rfl, l4⟩)
          | false =>
            subst hm
            obtain ⟨mo3, s4⟩ := s3.show_
            have rm' := rm.monoM mo3
            rw [mkD_f] at e1
            obtain ⟨e4, e5⟩ := Prod.mk.inj e1
            subst e4 e5
            exact h2 (.ref p) _ _ (x'.setNew hp) s4 (by simp only [VR]; exact ⟨p, _, rfl, ⟨nt, (sr.notin hp).2⟩, upd_same, rm'.1.symm, rm'.2⟩)
        · cases h1
/-- {} -/
def eDict0 (m : Bool) : EM := fun _ S => .ok (mkD m [] S).1 (mkD m [] S).2
theorem m_dict0 {m : Bool} : ME X Wx (.Dict [] [] pos) (eDict0 m) := leE pe_dnewK fun σ H Q ⟨e, S, φ, er, sr, q⟩ p hp => by
  cases m with
  | true =>
    obtain ⟨x, s', l⟩ := sr.push (ob := .dic []) (o := .dK []) hp fun H' φ' x' e => ⟨[], e, rfl, .nil⟩
    exact q (.ref p) _ _ x s' (by simp only [mkD_t, VR]; exact ⟨p, rfl, l⟩)
  | false =>
    obtain ⟨x, s'⟩ := sr.extra (o := .dK []) hp
    exact q (.ref p) _ _ x s' (by simp only [mkD_f, VR]; exact ⟨p, [], rfl, sr.notin hp, upd_same, rfl, .nil⟩)
end
end Sh

set_option Elab.async false
set_option linter.all false
set_option maxRecDepth 100000
set_option maxHeartbeats 2000000
/-! ShC: calls of the text's defs, attributes, methods, making of instances. -/
namespace Sh
open PySem PySem.Spec PyProof.Rows L2

abbrev Cal := List W → Store → R W
/-- n arguments, no others -/
def Ary (n : Nat) (C : Cal) : Prop := ∀ ws S, ws.length ≠ n → C ws S = .bad
theorem ary_run {ps n : Nat} {b : SM} : Ary ps (runDef ps n b) := fun ws S h => by
  unfold runDef
  rw [if_neg h]
theorem ary_runO {ps n : Nat} {b : SM} : Ary ps (runDefO ps n b) := fun ws S h => by
  unfold runDefO
  rw [if_neg h]
/-- the promise of a def: what the model computes -/
def spM (K : PySem.W.Frag) (mg : Str → Option Value) (n : Nat) (C : Cal) : Sp := fun vs H Q E => ∃ ws S φ, VRs K mg H φ ws vs ∧ SR K mg H φ S ∧ ws.length = n ∧ PostR K mg (fun c d _ H => E c d H) (VR K mg) [] H φ Q (C ws S)
theorem spM_len {K : PySem.W.Frag} {mg : Str → Option Value} {n : Nat} {C : Cal} {ps : List Str} (hn : n = ps.length) (vs : List V) (H : Hp) (Q : VK) (E : XK) (h : spM K mg n C vs H Q E) : vs.length = ps.length := by
  obtain ⟨ws, S, φ, r, s, l, q⟩ := h
  rw [← r.length, l, hn]
theorem spM_of {K : PySem.W.Frag} {mg : Str → Option Value} {n : Nat} {C : Cal} {Wx : WX} {σ : L2.St} {H : Hp} {φ : Fi} {S : Store} {ws : List W} {vs : List V} {Q : VK} (hC : Ary n C) (r : VRs K mg H φ ws vs) (s : SR K mg H φ S)
    (q : PostR K mg Wx (VR K mg) σ H φ Q (C ws S)) : spM K mg n C vs H Q (WE Wx σ) := by
  refine ⟨ws, S, φ, r, s, ?_, ?_⟩
  · by_cases h : ws.length = n
    · exact h
    · rw [hC ws S h] at q; exact q.elim
  · cases e : C ws S with
    | ok a S1 => rw [e] at q; exact q
    | exc x S1 => rw [e] at q; exact q
    | bad => rw [e] at q; exact q.elim
/-- the promise is kept, up to depth k -/
def DefOk (P : Program) (w : World) (K : PySem.W.Frag) (mg : Str → Option Value) (base : Heap) (k : Nat) (f : Addr) (ps : List Str) (C : Cal) : Prop := ∃ fd, FnOk P w K mg base (L2.CX P w) k f fd ps (spM K mg ps.length C) ∧ Binds K fd ps [] ∧ PySem.W.keepIn K (.ref f) = true ∧ Ary ps.length C
/-- .. a def that stands at a global name -/
def GlOk (P : Program) (w : World) (K : PySem.W.Frag) (mg : Str → Option Value) (base : Heap) (k : Nat) (x : Str) (ps : List Str) (C : Cal) : Prop := ∃ f, mg x = some (.ref f) ∧ DefOk P w K mg base k f ps C
/-- .. a method -/
def MtOk (P : Program) (w : World) (K : PySem.W.Frag) (mg : Str → Option Value) (base : Heap) (k : Nat) (c m : Str) (ps : List Str) (C : Cal) : Prop := ∃ A f, mg c = some (.ref A) ∧ Cls K A ∧ Meth K A m f ∧ DefOk P w K mg base k f ps C
/-- .. a class with its __init__ -/
def MkOk (P : Program) (w : World) (K : PySem.W.Frag) (mg : Str → Option Value) (base : Heap) (k : Nat) (c : Str) (ps : List Str) (C : Cal) : Prop := ∃ A f, mg c = some (.ref A) ∧ Mk K A f ∧ DefOk P w K mg base k f ps C

/-- an object without attributes, then __init__ -/
def eMake (c : Str) (C : Cal) (as : List EM) : EM := fun e S => (evs as e S).bind fun xs S1 => (C (.ref S1.length :: xs) (S1 ++ [.ins c []])).bind fun w S2 => match w with
  | .non => .ok (.ref S1.length) S2
  | _ => .bad
/-- o.m(..) -/
def eMet (c m : Str) (C : Cal) (o : EM) (as : List EM) : EM := fun e S => (o e S).bind fun x S1 => match x with
  | .ref a => match S1[a]? with
    | some (.ins c' fs) => if c' = c ∧ fs.lookup m = none then (evs as e S1).bind fun xs S2 => C (x :: xs) S2 else .bad
    | _ => .bad
  | _ => .bad
/-- known classes and the attributes that are their instances' own -/
abbrev CF := Str → List Str
def CfOk (K : PySem.W.Frag) (mg : Str → Option Value) (cf : CF) : Prop := ∀ c f, f ∈ cf c → ∃ A, mg c = some (.ref A) ∧ Cls K A ∧ NoAttr K A f
def fldW (cf : CF) (f : Str) : P1 := fun w S => match w with
  | .ref a => match S[a]? with
    | some (.ins c fs) => if f ∈ cf c then (fs.lookup f).map fun v => (v, S) else none
    | _ => none
  | _ => none
def putW' (f : Str) (v : W) : List (Str × W) → List (Str × W)
  | [] => [(f, v)]
  | (k, x) :: r => if k = f then (k, v) :: r else (k, x) :: putW' f v r
/-- o.f = e -/
def sFldW (cf : CF) (o : EM) (f : Str) (a : EM) : SM := fun e S => (a e S).thn e fun v S1 => (o e S1).thn e fun x S2 => match x with
  | .ref p => match S2[p]? with
    | some (.ins c fs) => if f ∈ cf c ∧ fs.length < 1000 then .nx e (S2.set p (.ins c (putW' f v fs))) else .bad
    | _ => .bad
  | _ => .bad

section
variable {K : PySem.W.Frag} {mg : Str → Option Value} {H : Hp} {φ : Fi}
theorem fs_get : ∀ {fs : List (Str × W)} {us : List (Str × V)} {f : Str} {w : W}, KVR K mg H φ fs us → fs.lookup f = some w → ∃ v, us.lookup f = some v ∧ VR K mg H φ w v
  | [], us, f, w, h, e => by cases e
  | (g, x) :: fs, us, f, w, h, e => by
    obtain ⟨h1, h2⟩ := h
    cases us with
    | nil => cases h1
    | cons p us =>
      obtain ⟨g', y⟩ := p
      simp only [List.map_cons, List.cons.injEq] at h1
      obtain ⟨e1, e2⟩ := h1
      subst e1
      have h2' : VRs K mg H φ (x :: fs.map (·.2)) (y :: us.map (·.2)) := h2
      simp only [VRs] at h2'
      obtain ⟨v', r', e3, r1, r2⟩ := h2'
      cases e3
      simp only [List.lookup_cons] at e ⊢
      cases hg : f == g with
      | true => rw [hg] at e; cases e; exact ⟨y, rfl, r1⟩
      | false => rw [hg] at e; exact fs_get ⟨e2, r2⟩ e
theorem fs_none : ∀ {fs : List (Str × W)} {us : List (Str × V)} {f : Str}, fs.map (·.1) = us.map (·.1) → fs.lookup f = none → us.lookup f = none
  | [], us, f, h1, e => by
    have : us = [] := by simpa using h1.symm
    subst this; rfl
  | (g, x) :: fs, us, f, h1, e => by
    cases us with
    | nil => cases h1
    | cons p us =>
      obtain ⟨g', y⟩ := p
      simp only [List.map_cons, List.cons.injEq] at h1
      obtain ⟨e1, e2⟩ := h1
      subst e1
      simp only [List.lookup_cons] at e ⊢
      cases hg : f == g with
      | true => rw [hg] at e; cases e
      | false => rw [hg] at e; exact fs_none e2 e
theorem fs_put {f : Str} {w : W} {v : V} (r : VR K mg H φ w v) : ∀ {fs : List (Str × W)} {us : List (Str × V)}, KVR K mg H φ fs us → KVR K mg H φ (putW' f w fs) (putF f v us)
  | [], us, h => by
    have : us = [] := by simpa using h.1.symm
    subst this
    exact ⟨rfl, .one r⟩
  | (g, x) :: fs, us, h => by
    obtain ⟨h1, h2⟩ := h
    cases us with
    | nil => cases h1
    | cons p us =>
      obtain ⟨g', y⟩ := p
      simp only [List.map_cons, List.cons.injEq] at h1
      obtain ⟨e1, e2⟩ := h1
      subst e1
      have h2' : VRs K mg H φ (x :: fs.map (·.2)) (y :: us.map (·.2)) := h2
      simp only [VRs] at h2'
      obtain ⟨v', r', e3, r1, r2⟩ := h2'
      cases e3
      simp only [putW', putF]
      by_cases hg : g = f
      · rw [if_pos hg, if_pos hg]
        exact ⟨by simp only [List.map_cons, e2], .cons r r2⟩
      · rw [if_neg hg, if_neg hg]
        obtain ⟨g1, g2⟩ := fs_put r (fs := fs) (us := us) ⟨e2, r2⟩
        exact ⟨by simp only [List.map_cons, g1], .cons r1 g2⟩
end

section
variable {X : Cx} {Wx : WX} {k : Nat} {C : Cal} {ps : List Str} {x c m : Str} {p pos apos : Pos} {a o : Expr} {es : List Expr} {A O : EM} {As : List EM}
theorem m_call (F : GlOk X.prog X.w X.K X.mg X.base k x ps C) (hr : Room k X.A) (tk : Takes X Wx) (hg : Gl X x) (ha : MA X Wx (a :: es) (evs As)) (hdb : (x == ("__debug__" : Str)) = false := by decide) (he : starEach (a :: es) X.env = (false, eval a X.env) :: starEach es X.env := by rfl) (hpl : (backTo pos (starEach es X.env)).any (·.1) = false := by rfl) :
    ME X Wx (.Call (.Name x p) (a :: es) [] pos) (eCall C As) := by
  obtain ⟨f, hm, fd, F, hb, hk, hC⟩ := F
  refine leE (pe_callSD (E := fun σ => WE Wx σ) F hr hg hm hk hb .nil (fun σ => passAt tk σ) ha hdb he hpl) fun σ H Q ⟨e, S, φ, er, sr, q⟩ => ⟨e, S, φ, er, sr, q.bind fun ws S1 vs H1 φ1 x1 s1 r1 q1 => ?_⟩
  show spM _ _ _ _ (vs ++ []) H1 Q (WE Wx σ)
  rw [List.append_nil]
  exact spM_of hC r1 s1 q1
theorem m_call0 (F : GlOk X.prog X.w X.K X.mg X.base k x ps C) (hr : Room k X.A) (tk : Takes X Wx) (hg : Gl X x) (hdb : (x == ("__debug__" : Str)) = false := by decide) : ME X Wx (.Call (.Name x p) [] [] pos) (eCall C []) := by
  obtain ⟨f, hm, fd, F, hb, hk, hC⟩ := F
  refine ⟨fun pins s σ H Q I ⟨e, S, φ, er, sr, q⟩ => ?_⟩
  refine wpAny_Call_Name_kw (ld_glob I hg hm ?_ hdb)
  exact PySem.W.callWith_K0 I.kIn hk (run_fnSD (us := []) (vs := []) (dvs := []) (E := fun σ => WE Wx σ) F hr hb .nil (passAt tk σ) I .nil (spM_of hC (VRs.nil) sr (by simpa [eCall, evs] using q)))
theorem m_fld {cf : CF} {f : Str} (hcf : CfOk X.K X.mg cf) (ha : ME X Wx a A) (hb : attributeBase a f X.env (eval a X.env) = eval a X.env := by rfl) : ME X Wx (.Attribute a f pos) (e1 (fldW cf f) A) :=
  leE (pe_fld ha hb) fun σ H Q ⟨e, S, φ, er, sr, q⟩ => ⟨e, S, φ, er, sr, q.bind fun w S1 v H1 φ1 x1 s1 r1 q1 => by
    obtain ⟨u, S', h1, h2⟩ := post_lift q1
    unfold fldW at h1
    split at h1
    · rename_i b
      split at h1
      · rename_i c fs e0
        split at h1
        · rename_i hf
          simp only [Option.map_eq_some_iff] at h1
          obtain ⟨z, h3, h4⟩ := h1
          cases h4
          obtain ⟨p, rfl, t⟩ := vref r1
          obtain ⟨C, dx, us, m, hp, kr⟩ := s1.at_ b _ p e0 t
          obtain ⟨C', m', hc, hn⟩ := hcf c f hf
          rw [m] at m'; cases m'
          obtain ⟨y, e3, ry⟩ := fs_get kr h3
          exact ⟨p, C, dx, us, y, rfl, hp, hc, hn, e3, h2 y H1 φ1 .refl s1 ry⟩
        · cases h1
      · cases h1
    · cases h1⟩
theorem ms_fld {cf : CF} {f : Str} {pos' : Pos} (hcf : CfOk X.K X.mg cf) (ho : ME X Wx o O) (ha : ME X Wx a A) (hs : swapsWith a (some (.Attribute o f pos')) pos.line X.env = pure false := by rfl) : MS X Wx (.Assign [.Attribute o f pos'] a pos) (sFldW cf O f A) :=
  leS (ps_fld ho ha hs) fun D σ H ⟨e, S, φ, er, sr, q⟩ => ⟨e, S, φ, er, sr, PostS.thn er q fun w S1 v H1 φ1 x1 s1 r1 q1 => ⟨e, S1, φ1, er.mono x1, s1, PostS.thn (er.mono x1) q1 fun y S2 u H2 φ2 x2 s2 r2 q2 => by
    cases y with
    | ref b =>
      dsimp only at q2
      split at q2
      · rename_i c fs e0
        split at q2
        · rename_i hf
          obtain ⟨p, rfl, t⟩ := vref r2
          obtain ⟨C, dx, us, m, hp, kr⟩ := s2.at_ b _ p e0 t
          obtain ⟨C', m', hc, hn⟩ := hcf c f hf.1
          rw [m] at m'; cases m'
          have hl : fs.length = us.length := by have := congrArg List.length kr.1; simpa using this
          obtain ⟨x3, s3⟩ := s2.write (ob := .ins c (putW' f w fs)) (o := .ins C dx (putF f v us)) t fun H' φ' x e => ⟨C, dx, _, m, e, fs_put ((r1.mono x2).mono x) (kr.mono x)⟩
          exact ⟨p, C, dx, us, rfl, hp, hc, hn, by rw [← hl]; exact hf.2, q2 σ _ φ2 x3 (((er.mono x1).mono x2).mono x3) s3⟩
        · exact q2.elim
      · exact q2.elim
    | _ => exact q2.elim⟩⟩
/-- what a method's call needs of the object -/
theorem met_at {K : PySem.W.Frag} {mg : Str → Option Value} {H : Hp} {φ : Fi} {S : Store} {b : Nat} {v : V} {fs : List (Str × W)} {M : Addr} (s : SR K mg H φ S) (r : VR K mg H φ (.ref b) v) (e0 : S[b]? = some (.ins c fs)) (hm : mg c = some (.ref M)) (hl : fs.lookup m = none) :
    ∃ p dx us, v = .ref p ∧ H p = some (.ins M dx us) ∧ us.lookup m = none := by
  obtain ⟨p, rfl, t⟩ := vref r
  obtain ⟨C, dx, us, m', hp, kr⟩ := s.at_ b _ p e0 t
  rw [hm] at m'; cases m'
  exact ⟨p, dx, us, rfl, hp, fs_none kr.1 hl⟩
theorem m_met {pl : Sem Bool} (F : MtOk X.prog X.w X.K X.mg X.base k c m ps C) (hr : Room k X.A) (tk : Takes X Wx) (ho : ME X Wx o O) (ha : MA X Wx (a :: es) (evs As))
    (hst : starEach (a :: es) X.env = (false, eval a X.env) :: starEach es X.env := by rfl) (hpl : (backTo pos (starEach es X.env)).any (·.1) = false := by rfl)
    (ht : eval (.Call (.Attribute o m apos) (a :: es) [] pos) X.env = (do
      let ov ← eval o X.env
      standAt apos.atName
      let (f, first) ← holding [ov] (getMethod ov m pl)
      callWith pos f first (backTo pos (starEach (a :: es) X.env)) (backToKw pos (keywordEach [] X.env))) := by rfl) :
    ME X Wx (.Call (.Attribute o m apos) (a :: es) [] pos) (eMet c m C O As) := by
  obtain ⟨M, f, hm, hc, hmt, fd, F, hb, hk, hC⟩ := F
  refine ⟨fun pins s σ H Q I ⟨e, S, φ, er, sr, q⟩ => ?_⟩
  have h1 : rE X.K X.mg Wx O σ H (fun x H1 => ∃ b dx fs, x = .ref b ∧ H1 b = some (.ins M dx fs) ∧ fs.lookup m = none ∧ rA X.K X.mg Wx (evs As) σ H1 fun vs H2 => spM X.K X.mg ps.length C (x :: vs) H2 Q (WE Wx σ)) := ⟨e, S, φ, er, sr, q.bind fun w S1 v H1 φ1 x1 s1 r1 q1 => by
    cases w with
    | ref b =>
      dsimp only at q1
      split at q1
      · rename_i c' fs e0
        split at q1
        · rename_i hf
          obtain ⟨rfl, hl⟩ := hf
          obtain ⟨p, dx, us, rfl, hp, hn⟩ := met_at s1 r1 e0 hm hl
          exact ⟨p, dx, us, rfl, hp, hn, e, S1, φ1, er.mono x1, s1, q1.bind fun ws S2 vs H2 φ2 x2 s2 r2 q2 => spM_of hC (.cons (r1.mono x2) r2) s2 q2⟩
        · exact q1.elim
      · exact q1.elim
    | _ => exact q1.elim⟩
  refine PySem.W.methodCall_KW (pl := pl) (thn (ho.run pins s σ H _ I h1) fun u s1 ⟨x, H1, I1, rx, b, dx, fs, ex, ea, l, q⟩ => ?_) ht
  subst ex
  obtain rfl : u = Value.ref b := rx
  refine getmeth_ok I1 ea hc hmt l ?_
  refine PySem.W.callWith_K (first := [.ref b]) (h₀ := X.base) I.ok.mod.kin hmt.kp (thn (ha.run pos pins s1 σ H1 _ I1 q) fun us s2 ⟨vs, H2, I2, r, q2⟩ => ⟨I2.kIn, ?_⟩) hst hpl
  exact run_fnSD (us := .ref b :: us) (vs := .ref b :: vs) (dvs := []) (E := fun σ => WE Wx σ) F hr hb .nil (passAt tk σ) I2 (.cons rfl r) (by rw [List.append_nil]; exact q2)
theorem m_met0 {pl : Sem Bool} (F : MtOk X.prog X.w X.K X.mg X.base k c m ps C) (hr : Room k X.A) (tk : Takes X Wx) (ho : ME X Wx o O)
    (ht : eval (.Call (.Attribute o m apos) [] [] pos) X.env = (do
      let ov ← eval o X.env
      standAt apos.atName
      let (f, first) ← holding [ov] (getMethod ov m pl)
      callWith pos f first (backTo pos (starEach [] X.env)) (backToKw pos (keywordEach [] X.env))) := by rfl) :
    ME X Wx (.Call (.Attribute o m apos) [] [] pos) (eMet c m C O []) := by
  obtain ⟨M, f, hm, hc, hmt, fd, F, hb, hk, hC⟩ := F
  refine ⟨fun pins s σ H Q I ⟨e, S, φ, er, sr, q⟩ => ?_⟩
  have h1 : rE X.K X.mg Wx O σ H (fun x H1 => ∃ b dx fs, x = .ref b ∧ H1 b = some (.ins M dx fs) ∧ fs.lookup m = none ∧ spM X.K X.mg ps.length C [x] H1 Q (WE Wx σ)) := ⟨e, S, φ, er, sr, q.bind fun w S1 v H1 φ1 x1 s1 r1 q1 => by
    cases w with
    | ref b =>
      dsimp only at q1
      split at q1
      · rename_i c' fs e0
        split at q1
        · rename_i hf
          obtain ⟨rfl, hl⟩ := hf
          obtain ⟨p, dx, us, rfl, hp, hn⟩ := met_at s1 r1 e0 hm hl
          exact ⟨p, dx, us, rfl, hp, hn, spM_of hC (.one r1) s1 (by simpa [evs] using q1)⟩
        · exact q1.elim
      · exact q1.elim
    | _ => exact q1.elim⟩
  refine PySem.W.methodCall_KW (pl := pl) (thn (ho.run pins s σ H _ I h1) fun u s1 ⟨x, H1, I1, rx, b, dx, fs, ex, ea, l, q⟩ => ?_) ht
  subst ex
  obtain rfl : u = Value.ref b := rx
  refine getmeth_ok I1 ea hc hmt l ?_
  exact PySem.W.callWith_K0 (first := [.ref b]) I1.kIn hmt.kp (run_fnSD (us := [.ref b]) (vs := [.ref b]) (dvs := []) (E := fun σ => WE Wx σ) F hr hb .nil (passAt tk σ) I1 (.cons rfl .nil) q)
/-! ### instances -/
theorem run_mk {CX : CXT} {M f : Addr} {fd : FuncData} {sp : Sp} {E : XK} {pins : List (Addr × Obj)} {σ : L2.St} {H : Hp} {s : Shared} {Q : VK} {us : List Value} {vs : List V} (Mk' : Mk X.K M f) (F : FnOk X.prog X.w X.K X.mg X.base CX k f fd ps sp) (hr : Room (k + 1) X.A) (hb : Binds X.K fd ps [])
    (hx : PassesAt CX X σ E) (I : Inv X pins σ H s) (r : Vals vs us)
    (h : ∀ x dx, H x = none → H dx = none → dx ≠ x → sp (.ref x :: vs) (upd (upd H dx (.own x)) x (.ins M dx [])) (fun v H2 => v = .non ∧ Q (.ref x) H2) E) :
    wpAny (model X.prog X.w) X.A (call (.ref M) us) (EP X pins σ Q) X.xe s := by
  have hq := h (s.heap.objs.size + 1) s.heap.objs.size (I.hok.fresh (Nat.le_succ _)) (I.hok.fresh (Nat.le_refl _)) (Nat.ne_of_lt (Nat.lt_succ_self _))
  have I2 := Inv.made (C := M) I
  have r2 : Vals (V.ref (s.heap.objs.size + 1) :: vs) (Value.ref (s.heap.objs.size + 1) :: us) := .cons rfl r
  have hl : (Value.ref (s.heap.objs.size + 1) :: us).length = ps.length := by
    have e := r2.length
    rw [F.len _ _ _ _ hq] at e
    exact e.symm
  have b := hb _ (Value.ref (s.heap.objs.size + 1) :: us) I2.kIn (by rw [List.append_nil]; exact hl)
  rw [List.append_nil] at b
  refine wpAny_call (make_map (f := f) I.kIn Mk'.makes Mk'.init (beq_iff_eq.mp Mk'.fn) (codeAny_mono (F.run _ X.stack _ _ ⟨Value.ref (s.heap.objs.size + 1) :: us, []⟩ (Value.ref (s.heap.objs.size + 1) :: us) _ _ E (hr.make M us [])
    (I2.env0.make M us []) b r2 hq) fun r s' hq' => ?_))
  cases r with
  | error e => exact hx pins _ _ e s' I2 hq'
  | ok fl =>
    cases fl with
    | ret u =>
      obtain ⟨v, H', I3, rv, ev, q3⟩ := I2.after hq'
      subst ev
      exact ⟨rv, ⟨V.ref (s.heap.objs.size + 1), H', I3, rfl, q3⟩⟩
    | next => exact False.elim hq'
    | brk => exact False.elim hq'
    | cont => exact False.elim hq'
theorem make_post {K : PySem.W.Frag} {mg : Str → Option Value} {n : Nat} {M : Addr} {σ : L2.St} {H : Hp} {φ : Fi} {S : Store} {ws : List W} {vs : List V} {Q : VK} (hC : Ary n C) (hm : mg c = some (.ref M)) (r : VRs K mg H φ ws vs) (s : SR K mg H φ S)
    (q : PostR K mg Wx (VR K mg) σ H φ Q ((C (.ref S.length :: ws) (S ++ [.ins c []])).bind fun w S2 => match w with
      | .non => .ok (.ref S.length) S2
      | _ => .bad)) (x dx : Addr) (hx : H x = none) (hd : H dx = none) (hne : dx ≠ x) : spM K mg n C (.ref x :: vs) (upd (upd H dx (.own x)) x (.ins M dx [])) (fun v H2 => v = .non ∧ Q (.ref x) H2) (WE Wx σ) := by
  obtain ⟨x1, s1⟩ := s.extra (o := .own x) hd
  obtain ⟨x2, s2, l2⟩ := s1.push (q := x) (ob := .ins c []) (o := .ins M dx []) (by rw [upd_ne (Ne.symm hne)]; exact hx) fun H' φ' x' e => ⟨M, dx, [], hm, e, rfl, .nil⟩
  have x12 := x1.trans x2
  have rx : VR K mg (upd (upd H dx (.own x)) x (.ins M dx [])) ⟨φ.t ++ [x], φ.h⟩ (.ref S.length) (.ref x) := by simp only [VR]; exact ⟨x, rfl, l2⟩
  refine spM_of (σ := σ) hC (.cons rx (r.mono x12)) s2 ?_
  have q' := PostR.ext x12 q
  refine PostR.bind q' fun w S2 v H3 φ3 x3 s3 r3 q3 => ?_
  cases w with
  | non => exact ⟨r3, PostR.ok_at (a := W.ref S.length) q3 s3 (rx.mono x3)⟩
  | _ => exact q3.elim
theorem m_make (F : MkOk X.prog X.w X.K X.mg X.base k c ps C) (hr : Room (k + 1) X.A) (tk : Takes X Wx) (hg : Gl X c) (ha : MA X Wx (a :: es) (evs As)) (hdb : (c == ("__debug__" : Str)) = false := by decide) (he : starEach (a :: es) X.env = (false, eval a X.env) :: starEach es X.env := by rfl) (hpl : (backTo pos (starEach es X.env)).any (·.1) = false := by rfl) :
    ME X Wx (.Call (.Name c p) (a :: es) [] pos) (eMake c C As) := by
  obtain ⟨M, f, hm, M', fd, F, hb, hk, hC⟩ := F
  refine ⟨fun pins s σ H Q I ⟨e, S, φ, er, sr, q⟩ => ?_⟩
  have h1 : rA X.K X.mg Wx (evs As) σ H (fun vs H1 => ∀ x dx, H1 x = none → H1 dx = none → dx ≠ x → spM X.K X.mg ps.length C (.ref x :: vs) (upd (upd H1 dx (.own x)) x (.ins M dx [])) (fun v H2 => v = .non ∧ Q (.ref x) H2) (WE Wx σ)) :=
    ⟨e, S, φ, er, sr, q.bind fun ws S1 vs H1 φ1 x1 s1 r1 q1 => make_post hC hm r1 s1 q1⟩
  refine wpAny_Call_Name_kw (ld_glob I hg hm ?_ hdb)
  refine PySem.W.callWith_K (h₀ := X.base) I.ok.mod.kin M'.kp (thn (ha.run pos pins s σ H _ I h1) fun us s1 ⟨vs, H1, I1, r, q⟩ => ⟨I1.kIn, ?_⟩) he hpl
  exact run_mk M' F hr hb (passAt tk σ) I1 r q
theorem m_make0 (F : MkOk X.prog X.w X.K X.mg X.base k c ps C) (hr : Room (k + 1) X.A) (tk : Takes X Wx) (hg : Gl X c) (hdb : (c == ("__debug__" : Str)) = false := by decide) : ME X Wx (.Call (.Name c p) [] [] pos) (eMake c C []) := by
  obtain ⟨M, f, hm, M', fd, F, hb, hk, hC⟩ := F
  refine ⟨fun pins s σ H Q I ⟨e, S, φ, er, sr, q⟩ => ?_⟩
  refine wpAny_Call_Name_kw (ld_glob I hg hm ?_ hdb)
  exact PySem.W.callWith_K0 I.kIn M'.kp (run_mk (us := []) (vs := []) M' F hr hb (passAt tk σ) I .nil (make_post hC hm .nil sr q))
/-! ### keywords, in the parameters' order -/
def KwOk (P : Program) (w : World) (K : PySem.W.Frag) (mg : Str → Option Value) (base : Heap) (k : Nat) (x : Str) (ps ks : List Str) (C : Cal) : Prop := ∃ f fd, mg x = some (.ref f) ∧ FnOk P w K mg base (L2.CX P w) k f fd ps (spM K mg ps.length C) ∧ PySem.W.keepIn K (.ref f) = true ∧ Ary ps.length C ∧
  ∀ (s : Shared) (us ws : List Value), us.length + ws.length = ps.length → ws.length = ks.length → BindsTo s fd ⟨us, ks.zip ws⟩ (ps.zip (us ++ ws))
abbrev MK (X : Cx) (Wx : WX) (kws : List Keyword) (m : AM) : Prop := PK X kws (rA X.K X.mg Wx m) ∧ ∀ e S ws S', m e S = .ok ws S' → ws.length = kws.length
theorem run_kw {CX : CXT} {f : Addr} {fd : FuncData} {sp : Sp} {E : XK} {ks : List Str} {pins : List (Addr × Obj)} {σ : L2.St} {H : Hp} {s : Shared} {Q : VK} {us ws : List Value} {vs zs : List V} (F : FnOk X.prog X.w X.K X.mg X.base CX k f fd ps sp) (hr : Room k X.A)
    (hb : BindsTo s fd ⟨us, ks.zip ws⟩ (ps.zip (us ++ ws))) (hx : PassesAt CX X σ E)
    (I : Inv X pins σ H s) (r : Vals vs us) (rz : Vals zs ws) (h : sp (vs ++ zs) H Q E) : wpAny (model X.prog X.w) X.A (call (.ref f) us (ks.zip ws)) (EP X pins σ Q) X.xe s := by
  refine wpAny_call (codeAny_mono (F.run X.A X.stack s H ⟨us, ks.zip ws⟩ (us ++ ws) (vs ++ zs) Q E hr I.env0 hb (r.append rz) h) fun r s' hq => ?_)
  cases r with
  | error e => exact hx pins H s e s' I hq
  | ok fl =>
    cases fl with
    | ret u => exact I.after hq
    | next => exact False.elim hq
    | brk => exact False.elim hq
    | cont => exact False.elim hq
def eCallK (C : Cal) (as ks : List EM) (n : Nat) : EM := fun e S => (evs as e S).bind fun xs S1 => (evs ks e S1).bind fun ys S2 => if ys.length = n then C (xs ++ ys) S2 else .bad
theorem leK {kws : List Keyword} {t t' : TA} (h : PK X kws t) (g : ∀ σ H Q, t' σ H Q → t σ H Q) : PK X kws t' := ⟨fun pos pins s σ H Q I q => h.run pos pins s σ H Q I (g σ H Q q)⟩
abbrev MKw (X : Cx) (Wx : WX) (kws : List Keyword) (m : AM) : Prop := PK X kws (rA X.K X.mg Wx m)
theorem mk_nil : MKw X Wx [] (evs []) := leK pk_nil fun σ H Q ⟨e, S, φ, er, sr, q⟩ => PostR.ok_at q sr .nil
theorem mk_cons {nm : Option Str} {kpos : Pos} {kws : List Keyword} (ha : ME X Wx a A) (hr : MKw X Wx kws (evs As)) : MKw X Wx (⟨nm, a, kpos⟩ :: kws) (evs (A :: As)) :=
  leK (pk_cons ha hr) fun σ H Q ⟨e, S, φ, er, sr, q⟩ => ⟨e, S, φ, er, sr, PostR.bind q fun w S1 v H1 φ1 x1 s1 r1 q1 => ⟨e, S1, φ1, er.mono x1, s1, q1.bind fun ws S2 vs H2 φ2 x2 s2 r2 q2 => q2.ok_at s2 (.cons (r1.mono x2) r2)⟩⟩
theorem m_callK0 {kws : List Keyword} {ks : List Str} {Ks : List EM} (F : KwOk X.prog X.w X.K X.mg X.base k x ps ks C) (hr : Room k X.A) (tk : Takes X Wx) (hg : Gl X x) (hkw : MKw X Wx kws (evs Ks))
    (hall : (backToKw pos (keywordEach kws X.env)).all (·.1.isSome) = true := by rfl) (hks : (backToKw pos (keywordEach kws X.env)).filterMap (·.1) = ks := by rfl) (hdb : (x == ("__debug__" : Str)) = false := by decide)
    (hpl : ((backTo pos (starEach [] X.env)).any (·.1) || (backToKw pos (keywordEach kws X.env)).any (·.1.isNone)) = false := by rfl) : ME X Wx (.Call (.Name x p) [] kws pos) (eCallK C [] Ks ks.length) := by
  obtain ⟨f, fd, hm, F, hk, hC, hb⟩ := F
  refine ⟨fun pins s σ H Q I ⟨e, S, φ, er, sr, q⟩ => ?_⟩
  have h1 : rA X.K X.mg Wx (evs Ks) σ H (fun zs H1 => zs.length = ks.length ∧ spM X.K X.mg ps.length C zs H1 Q (WE Wx σ)) := ⟨e, S, φ, er, sr, PostR.bind (show PostR X.K X.mg Wx (VR X.K X.mg) σ H φ Q ((evs Ks e S).bind fun ys S2 => if ys.length = ks.length then C ([] ++ ys) S2 else .bad) from q) fun ws S1 vs H1 φ1 x1 s1 r1 q1 => by
    split at q1
    · rename_i hl
      exact ⟨by rw [← r1.length]; exact hl, spM_of hC r1 s1 q1⟩
    · exact q1.elim⟩
  refine wpAny_Call_Name_kw (ld_glob I hg hm ?_ hdb)
  refine PySem.W.callWith_KW0 (h₀ := X.base) I.ok.mod.kin hk hall ?_ hpl
  refine thn (hkw.run pos pins s σ H _ I h1) fun ws s2 ⟨zs, H2, I2, rz, l, q2⟩ => ⟨I2.kIn, ?_⟩
  rw [hks]
  have hz : ws.length = ks.length := by rw [← rz.length]; exact l
  have hl : ps.length = ws.length := by rw [← rz.length]; exact (F.len _ _ _ _ q2).symm
  exact run_kw (us := []) (vs := []) F hr (hb s2 [] ws (by simp [hl]) hz) (passAt tk σ) I2 .nil rz q2
theorem m_callK {kws : List Keyword} {ks : List Str} {Ks : List EM} (F : KwOk X.prog X.w X.K X.mg X.base k x ps ks C) (hr : Room k X.A) (tk : Takes X Wx) (hg : Gl X x) (ha : MA X Wx (a :: es) (evs As)) (hkw : MKw X Wx kws (evs Ks))
    (hall : (backToKw pos (keywordEach kws X.env)).all (·.1.isSome) = true := by rfl) (hks : (backToKw pos (keywordEach kws X.env)).filterMap (·.1) = ks := by rfl) (hdb : (x == ("__debug__" : Str)) = false := by decide)
    (he : starEach (a :: es) X.env = (false, eval a X.env) :: starEach es X.env := by rfl)
    (hpl : ((backTo pos (starEach (a :: es) X.env)).any (·.1) || (backToKw pos (keywordEach kws X.env)).any (·.1.isNone)) = false := by rfl) : ME X Wx (.Call (.Name x p) (a :: es) kws pos) (eCallK C As Ks ks.length) := by
  obtain ⟨f, fd, hm, F, hk, hC, hb⟩ := F
  refine ⟨fun pins s σ H Q I ⟨e, S, φ, er, sr, q⟩ => ?_⟩
  have h1 : rA X.K X.mg Wx (evs As) σ H (fun vs H1 => rA X.K X.mg Wx (evs Ks) σ H1 fun zs H2 => zs.length = ks.length ∧ spM X.K X.mg ps.length C (vs ++ zs) H2 Q (WE Wx σ)) := ⟨e, S, φ, er, sr, q.bind fun ws S1 vs H1 φ1 x1 s1 r1 q1 => ⟨e, S1, φ1, er.mono x1, s1, q1.bind fun ys S2 zs H2 φ2 x2 s2 r2 q2 => by
    split at q2
    · rename_i hl
      exact ⟨by rw [← r2.length]; exact hl, spM_of hC ((r1.mono x2).append r2) s2 q2⟩
    · exact q2.elim⟩⟩
  refine wpAny_Call_Name_kw (ld_glob I hg hm ?_ hdb)
  refine PySem.W.callWith_KW (h₀ := X.base) I.ok.mod.kin hk hall (thn (ha.run pos pins s σ H _ I h1) fun us s1 ⟨vs, H1, I1, r, q⟩ => ?_) hpl he
  refine thn (hkw.run pos pins s1 σ H1 _ I1 q) fun ws s2 ⟨zs, H2, I2, rz, l, q2⟩ => ⟨I2.kIn, ?_⟩
  rw [hks]
  have hz : ws.length = ks.length := by rw [← rz.length]; exact l
  have hl := F.len _ _ _ _ q2
  rw [List.length_append] at hl
  exact run_kw F hr (hb s2 us ws (by rw [← r.length, ← rz.length]; exact hl) hz) (passAt tk σ) I2 r rz q2
end
end Sh

set_option Elab.async false
set_option linter.all false
set_option maxRecDepth 100000
set_option maxHeartbeats 2000000
/-! ShX: more methods: extend by a tuple; augmented stores. -/
namespace Sh
open PySem PySem.Spec PyProof.Rows L2
section
open PySem PySem.AutoSeq1
theorem list_extend_tup (l : Addr) (items : Array Value) (n : Nat) (b : Addr) (items2 : Array Value) (n2 : Nat) (od : Option Addr) (sl : Array (Option Value)) (hs0 : ¬(!items.isEmpty && PySem.Builtin.List.listTooLong (items.size + items2.size)) = true) (hs1 : items.size ≤ sizeLine) (hs2 : items.size + items2.size ≤ sizeLine + 1) :
    Meets (Builtin.«list.extend» ⟨[.ref l, .ref b], []⟩) (fun _ R s => s.heap.get? l = some { cls := .type "list", dict := none, data := .seq items n, slots := #[] } ∧ s.heap.get? b = some { cls := .type "tuple", dict := od, data := .seq items2 n2, slots := sl } ∧ R (.ok (.ret Value.none)) { s with heap := s.heap.update l (Obj.mapSeq fun x => x ++ items2), toks := s.toks }) :=
  .of_wp fun prog w A R s h => by
    obtain ⟨hp, g, d, tk, os⟩ := s; obtain ⟨hl, hb, h⟩ := h; have f1 := idx_int; have f2 := AutoSeq1.sub_tuple_tuple; have f3 := AutoSeq1.sub_list_list; have f4 := AutoSeq1.sub_tuple_list; have f5 := AutoSeq1.sub_list_tuple;
    have hz' : (items ++ items2).size ≤ sizeLine + 1 := by rw [Array.size_append]; exact hs2
    wp_walk using (wpAny_updateSeq hl rfl (hz := hs1) (_hz' := hz')), wpAny_loadPart' hl, wpAny_loadPart' hb; exact ⟨_, rfl, h⟩
end
/-- l.extend(t) -/
def rExtT (K : PySem.W.Frag) : V → List V → Hp → VK → Prop := fun x vs H Q => ∃ l b xs zs, x = .ref l ∧ vs = [.ref b] ∧ H l = some (.lst xs) ∧ SqT K H b zs ∧ xs.length + zs.length ≤ sizeLine ∧ Q .non (upd H l (.lst (xs ++ zs)))
theorem mt_extT {X : Cx} : MtM X "list.extend" (rExtT X.K) := by
  intro pins s σ H x vs v us Q I rx rv h
  obtain ⟨l, b, xs, zs, rfl, rfl, hH, hB, hz, q⟩ := h
  cases rx
  obtain ⟨u, rfl, ru⟩ := rv.one
  cases ru
  obtain ⟨z, its, n, r, hl, e⟩ := I.lstM hH
  obtain ⟨its2, r2, ⟨⟨oc, od, dt, sl⟩, e2, hc, n2, hd⟩, z2⟩ := I.tuple hB
  simp only at hc hd
  subst hc hd
  have hl2 := r2.length
  have hsz : its.toArray.size + its2.toArray.size ≤ sizeLine := by rw [List.size_toArray, List.size_toArray]; omega
  have hlong : ¬ (!its.toArray.isEmpty && Builtin.List.listTooLong (its.toArray.size + its2.toArray.size)) = true := by
    rw [notLongL hsz, Bool.and_false]
    exact Bool.false_ne_true
  refine call_meets F.slot_list_extend ⟨_, e, rfl⟩ F.entry_list_extend (F.args_list_extend_2 _ _)
    (list_extend_tup l its.toArray n b its2.toArray n2 od sl hlong (by rw [List.size_toArray]; omega) (by omega)) ⟨e, e2, ?_⟩
  refine ⟨.non, _, I.lset (its' := its ++ its2) hH e (by simp) (r.append r2) ?_, rfl, q⟩
  rw [List.length_append]
  omega
/-- by a list, by a tuple -/
def extM : W → PN := fun x ws S => match x, ws with
  | .ref a, [.tup ys] => match S[a]? with
    | some (.lst xs) => if xs.length + ys.length ≤ sizeLine then some (.non, S.set a (.lst (xs ++ ys))) else none
    | _ => none
  | .ref a, [y] => match S[a]?, lsW y S with
    | some (.lst xs), some ys => if xs.length + ys.length ≤ sizeLine then some (.non, S.set a (.lst (xs ++ ys))) else none
    | _, _ => none
  | _, _ => none
def rExtM (K : PySem.W.Frag) : V → List V → Hp → VK → Prop := fun x vs H Q => rExtend x vs H Q ∨ rExtT K x vs H Q
theorem mt_extM {X : Cx} : MtR X "list.extend" (rExtM X.K) := by
  intro pins s σ H x xs v us Q I rx rs h
  rcases h with h | h
  · exact mt_extend pins s σ H x xs v us Q I rx rs h
  · exact mt_extT pins s σ H x xs v us Q I rx rs h
section
variable {K : PySem.W.Frag} {mg : Str → Option Value} {H : Hp} {φ : Fi} {S : Store}
theorem snd_extM : SndM K mg extM (rExtM K) := fun x ws S u S' H φ v vs Q s rx r h q => by
  unfold extM at h
  split at h
  · rename_i a ys
    split at h
    · rename_i xs e0
      split at h
      · rename_i hz
        cases h
        obtain ⟨p, us, rfl, t, hp, rr⟩ := vlst s rx e0
        obtain ⟨z, rfl, rz⟩ := one r
        obtain ⟨p', us', rfl, t', rr'⟩ := vtup rz
        obtain ⟨x, s'⟩ := s.write (ob := .lst (xs ++ ys)) (o := .lst (us ++ us')) t fun H' φ' x e => ⟨_, e, (rr.mono x).append (rr'.mono x)⟩
        exact .inr ⟨p, p', us, us', rfl, rfl, hp, t'.sq, by rw [← rr.length, ← rr'.length]; exact hz, q _ _ _ x s' (by simp [VR])⟩
      · cases h
    · cases h
  · rename_i a b _
    split at h
    · rename_i xs ys e0 e1
      split at h
      · rename_i hz
        cases h
        obtain ⟨p, us, rfl, t, hp, rr⟩ := vlst s rx e0
        obtain ⟨z, rfl, rz⟩ := one r
        obtain ⟨p', us', rfl, hp', rr'⟩ := lsW_ok s rz e1
        obtain ⟨x, s'⟩ := s.write (ob := .lst (xs ++ ys)) (o := .lst (us ++ us')) t fun H' φ' x e => ⟨_, e, (rr.mono x).append (rr'.mono x)⟩
        exact .inl ⟨p, p', us, us', rfl, rfl, hp, hp', by rw [← rr.length, ← rr'.length]; exact hz, q _ _ _ x s' (by simp [VR])⟩
      · cases h
    · cases h
  · cases h
end
/-! ### name op= e -/
/-- ints, texts -/
def iaddW : P2 := fun x y S => match x, y with
  | .int i, .int j => some (.int (i + j), S)
  | .str i, .str j => if i.length + j.length ≤ sizeLine then some (.str (i ++ j), S) else none
  | _, _ => none
def rIadd : TIp := fun x y H Q => ipI (fun i j => i + j) x y H Q ∨ ∃ i j, x = .str i ∧ y = .str j ∧ i.length + j.length ≤ sizeLine ∧ Q (.str (i ++ j)) H
theorem ip_iadd {X : Cx} : PIp X .Add rIadd := by
  intro pins s σ H x y v u Q I r1 r2 h
  rcases h with h | h
  · exact ip_add pins s σ H x y v u Q I r1 r2 h
  · exact iop_add_str pins s σ H x y v u Q I r1 r2 h
section
variable {K : PySem.W.Frag} {mg : Str → Option Value}
theorem snd_iadd : Snd2 K mg iaddW (fun v u H Q => rIadd v u H Q) := fun w w' S u S' H φ v v' Q s r r' h q => by
  cases w with
  | int i =>
    cases w' with
    | int j => cases h; cases vint r; cases vint r'; exact .inl ⟨i, j, rfl, rfl, same_end s (by simp [VR]) q⟩
    | _ => cases h
  | str i =>
    cases w' with
    | str j =>
      simp only [iaddW] at h
      split at h
      · rename_i hz
        cases h; cases vstr r; cases vstr r'
        exact .inr ⟨i, j, rfl, rfl, hz, same_end s (by simp [VR]) q⟩
      · cases h
    | _ => cases h
  | _ => cases h
theorem snd_isub : Snd2 K mg subW (fun v u H Q => ipI (fun i j => i - j) v u H Q) := fun w w' S u S' H φ v v' Q s r r' h q => by
  cases w with
  | int i =>
    cases w' with
    | int j => cases h; cases vint r; cases vint r'; exact ⟨i, j, rfl, rfl, same_end s (by simp [VR]) q⟩
    | _ => cases h
  | _ => cases h
end
end Sh

set_option Elab.async false
set_option linter.all false
set_option maxRecDepth 100000
set_option maxHeartbeats 2000000
/-! ShD: globals as values; a def's promise from its body's term; the facts of the head. -/
namespace Sh
open PySem PySem.Spec PyProof.Rows L2

/-! ### globals as values -/
/-- the module's name x is this value -/
def GV (K : PySem.W.Frag) (mg : Str → Option Value) (x : Str) (w : W) : Prop := ∃ u v, mg x = some u ∧ RelV v u ∧ ∀ H φ, VR K mg H φ w v
section
variable {X : Cx} {Wx : WX} {pos : Pos} {x : Str} {w : W}
theorem m_gv (h : GV X.K X.mg x w) (hg : Gl X x) (hd : (x == ("__debug__" : Str)) = false := by decide) : ME X Wx (.Name x pos) (eC w) := by
  obtain ⟨u, v, hm, r, hw⟩ := h
  exact m_gloV hg hm r hw hd
theorem m_ty {n : String} (hg : Gl X x) (hm : X.mg x = none) (hv : bootBuiltins x = some (.type n)) (hn : x ≠ "__name__" := by decide) (hd : (x == ("__debug__" : Str)) = false := by decide) : ME X Wx (.Name x pos) (eC (.ty n)) :=
  m_const (pe_bltn (v := .ty n) hg hm hv rfl hn hd) fun _ _ => by simp [VR]
end

/-! ### a def -/
theorem start_er {K : PySem.W.Frag} {mg : Str → Option Value} {H : Hp} {φ : Fi} {N : List Str} {ws : List W} {vs : List V} (r : VRs K mg H φ ws vs) : ER K mg H φ (startE N.length ws) (L2.start N vs) := by
  have hl := r.length
  refine ⟨by simp [startE, L2.start, hl], fun i w h => ?_⟩
  unfold startE at h
  unfold L2.start
  by_cases hi : i < ws.length
  · rw [List.getElem?_append_left (by simpa using hi), List.getElem?_map] at h
    rw [List.getElem?_append_left (by simpa [← hl] using hi), List.getElem?_map]
    cases e : ws[i]? with
    | none => rw [e] at h; cases h
    | some w' =>
      rw [e] at h
      cases h
      obtain ⟨v, e1, rv⟩ := r.get e
      exact ⟨v, by rw [e1]; rfl, rv⟩
  · rw [List.getElem?_append_right (by simpa using hi)] at h
    rw [List.getElem?_replicate] at h
    split at h <;> cases h
theorem run_readO {K : PySem.W.Frag} {mg : Str → Option Value} {N ps : List Str} {b : SM} {vs : List V} {H : Hp} {Q : VK} {E : XK} (h : spM K mg ps.length (runDefO ps.length N.length b) vs H Q E) :
    rS K mg (fun cls d _ H => E cls d H) b { nx := fun _ H' => Q .non H', rt := Q } (L2.start N vs) H := by
  obtain ⟨ws, S, φ, r, s, l, q⟩ := h
  refine ⟨startE N.length ws, S, φ, start_er r, s, ?_⟩
  unfold runDefO at q
  rw [if_pos l] at q
  cases e : b (startE N.length ws) S with
  | nx e' S' => rw [e] at q; exact fun σ' H' φ' x er sr => q .non H' φ' x sr (by simp [VR])
  | ret w S' => rw [e] at q; exact q
  | exc x e' S' => rw [e] at q; exact fun c d σ' H' φ' x er sr xr => q c d H' φ' x sr xr
  | brk _ _ => rw [e] at q; exact q.elim
  | cnt _ _ => rw [e] at q; exact q.elim
  | bad => rw [e] at q; exact q.elim
theorem cut_read {K : PySem.W.Frag} {mg : Str → Option Value} {Wx : WX} {σ : L2.St} {H H' : Hp} {φ φ' : Fi} {S S1 : Store} {w : W} {v : V} {Q : VK} (s : SR K mg H φ S) (q : PostR K mg Wx (VR K mg) σ H φ Q (cutR S w S1)) (x : Ext H H' φ φ') (s1 : SR K mg H' φ' S1) (r : VR K mg H' φ' w v) : Q v H' := by
  unfold cutR at q
  split at q
  · rename_i w' e1
    split at q
    · rename_i ok
      obtain ⟨x', ec⟩ := x.cut s
      have r' := fzD_ok s1 (n := S.length) 4 w w' v e1 r
      have s' := s1.cut ok
      rw [ec] at r' s'
      exact q v H' φ x' s' r'
    · exact q.elim
  · exact q.elim
theorem cutX_read {K : PySem.W.Frag} {mg : Str → Option Value} {Wx : WX} {σ : L2.St} {H H' : Hp} {φ φ' : Fi} {S S1 : Store} {x : Exn} {cls : Value} {d : Option Addr} {Q : VK} (s : SR K mg H φ S) (q : PostR K mg Wx (VR K mg) σ H φ Q (cutX S x S1)) (y : Ext H H' φ φ') (s1 : SR K mg H' φ' S1) (r : XR K mg H' φ' x cls d) : Wx cls d σ H' := by
  unfold cutX at q
  split at q
  · rename_i ok
    rw [Bool.and_eq_true] at ok
    obtain ⟨y', ec⟩ := y.cut s
    have s' := s1.cut ok.2
    rw [ec] at s'
    refine q cls d H' φ y' s' ?_
    obtain ⟨C, m, e, h⟩ := r
    refine ⟨C, m, e, ?_⟩
    rcases h with h | ⟨dd, us, e0, e1, e2, e3, e4⟩
    · exact .inl h
    · have e5 := e4.low ok.1
      rw [ec] at e5
      exact .inr ⟨dd, us, e0, e1, e2, e3, e5⟩
  · exact q.elim
theorem run_read {K : PySem.W.Frag} {mg : Str → Option Value} {N ps : List Str} {b : SM} {vs : List V} {H : Hp} {Q : VK} {E : XK} (h : spM K mg ps.length (runDef ps.length N.length b) vs H Q E) :
    rS K mg (fun cls d _ H => E cls d H) b { nx := fun _ H' => Q .non H', rt := Q } (L2.start N vs) H := by
  obtain ⟨ws, S, φ, r, s, l, q⟩ := h
  refine ⟨startE N.length ws, S, φ, start_er r, s, ?_⟩
  unfold runDef at q
  rw [if_pos l] at q
  cases e : b (startE N.length ws) S with
  | nx e' S' => rw [e] at q; exact fun σ' H' φ' x er sr => cut_read s q x sr (show VR K mg H' φ' .non .non by simp [VR])
  | ret w S' => rw [e] at q; exact fun v H' φ' x sr rv => cut_read s q x sr rv
  | exc x e' S' => rw [e] at q; exact fun c d σ' H' φ' y er sr xr => cutX_read s q y sr xr
  | brk _ _ => rw [e] at q; exact q.elim
  | cnt _ _ => rw [e] at q; exact q.elim
  | bad => rw [e] at q; exact q.elim
section
variable {P : Program} {w : World} {K : PySem.W.Frag} {mg : Str → Option Value} {base : Heap} {x qual : Str} {params : Arguments} {body : List Stmt} {scope : Scope} {f : Addr} {fd : FuncData} {N ps : List Str} {k : Nat} {b : SM}
/-- the context of a def's body -/
abbrev dX (P : Program) (w : World) (K : PySem.W.Frag) (mg : Str → Option Value) (base : Heap) (N : List Str) (qual : Str) (scope : Scope) (f : Addr) (cd : Value) (A : Around) (outer : List Env) (s : Shared) (H : Hp) (E : XK) : Cx := cxOf (L2.CX P w) P w K mg base N qual scope f cd A outer s H E
/-- its body has this model -/
def Bod (P : Program) (w : World) (K : PySem.W.Frag) (mg : Str → Option Value) (base : Heap) (k : Nat) (N : List Str) (qual : Str) (scope : Scope) (body : List Stmt) (b : SM) : Prop := ∀ (f : Addr) (cd : Value) (A : Around) (outer : List Env) (s : Shared) (H : Hp) (E : XK),
  Room k (dX P w K mg base N qual scope f cd A outer s H E).A → MSs (dX P w K mg base N qual scope f cd A outer s H E) (fun cls d _ H => E cls d H) body b
theorem def_ok (F : FunD K x qual params body scope [] [] f fd) (S : FnScope N ps scope) (hb : Binds K fd ps []) (hB : Bod P w K mg base k N qual scope body b) : DefOk P w K mg base (k + 1) f ps (runDef ps.length N.length b) :=
  ⟨fd, F.ok S (spM_len rfl) (fun cdv A outer s H vs Q E hr h => ⟨_, hB f cdv A outer s H E hr, run_read h⟩), hb, F.kp, ary_run⟩
theorem def_okO (F : FunD K x qual params body scope [] [] f fd) (S : FnScope N ps scope) (hb : Binds K fd ps []) (hB : Bod P w K mg base k N qual scope body b) : DefOk P w K mg base (k + 1) f ps (runDefO ps.length N.length b) :=
  ⟨fd, F.ok S (spM_len rfl) (fun cdv A outer s H vs Q E hr h => ⟨_, hB f cdv A outer s H E hr, run_readO h⟩), hb, F.kp, ary_runO⟩
theorem def_ok0 (hb : Binds K fd ps []) (hk : PySem.W.keepIn K (.ref f) = true) : DefOk P w K mg base 0 f ps fun _ _ => .bad :=
  ⟨fd, ⟨spM_len rfl, fun A outer s H args us vs Q E hr e0 b r ⟨ws, S, φ, _, _, _, q⟩ => q.elim⟩, hb, hk, fun _ _ _ => rfl⟩
end

/-! ### facts of tables -/
section
variable {K : PySem.W.Frag} {mg : Str → Option Value} {w : World}
theorem gv_int {x : Str} {i : Int} (h : ∃ t, mg x = some (.int i t)) : GV K mg x (.int i) := by
  obtain ⟨t, h⟩ := h
  exact ⟨_, .int i, h, ⟨t, rfl⟩, fun _ _ => by simp [VR]⟩
theorem gv_str {x z : Str} (h : ∃ t, mg x = some (.str z t)) : GV K mg x (.str z) := by
  obtain ⟨t, h⟩ := h
  exact ⟨_, .str z, h, ⟨t, rfl⟩, fun _ _ => by simp [VR]⟩
theorem gv_glo {x : Str} {a : Addr} (h : mg x = some (.ref a)) : GV K mg x (.glo x) := ⟨_, .ref a, h, rfl, fun _ _ => by simp only [VR]; exact ⟨a, h, rfl⟩⟩
theorem relAll_vals {vs : List V} {us : List Value} (h : He.relAll vs us = true) : Vals vs us := He.relAll_ok h
/-- a tuple of the module of flat values -/
theorem gv_tup {x : Str} {ds : List He.Dv} {ws : List W} {a : Addr} (hm : mg x = some (.ref a)) (ha : a = He.ga K x) (h : He.tupB K x ds = true) (hw : ∀ H φ, VRs K mg H φ ws (ds.map (He.Dv.v K))) : GV K mg x (.tup ws) := by
  subst ha
  refine ⟨_, .ref (He.ga K x), hm, rfl, fun H φ => ?_⟩
  simp only [VR]
  refine ⟨_, _, rfl, .inr ?_, hw H φ⟩
  have := He.tupB_ok h (fun _ => none)
  rcases this with (h1 | ⟨o, h1⟩) | h1
  · cases h1
  · cases h1
  · exact h1
/-- a dict of the module: its keys, its values -/
theorem gd_ok {x : Str} {ks : List Str} {kvs : List (Str × W)} {a : Addr} (hm : mg x = some (.ref a)) (h : He.dicW K a = some (He.keysIn w.params ks)) (hk : kvs.map (·.1) = ks)
    (hv : ∀ z wv, kvs.lookup z = some wv → ∃ u0 v0, PySem.W.nsIn K a z = some (some u0) ∧ RelV v0 u0 ∧ ∀ H φ, VR K mg H φ wv v0) : ∃ d es n, mg x = some (.ref d) ∧ KDict K w d es n ∧ ∀ z : Str, match kvs.lookup z with
  | some wv => ∃ u0 v0, PySem.W.nsIn K d z = some (some u0) ∧ RelV v0 u0 ∧ ∀ H φ, VR K mg H φ wv v0
  | none => PySem.W.nsIn K d z = some none := by
  obtain ⟨es, n, D⟩ := He.dicW_ok h
  refine ⟨a, es, n, hm, D, fun z => ?_⟩
  cases e : kvs.lookup z with
  | some wv => exact hv z wv e
  | none =>
    show PySem.W.nsIn K a z = some none
    unfold He.dicW at h
    unfold PySem.W.nsIn
    cases q : K.lookup a with
    | none => rw [q] at h; cases h
    | some o =>
      obtain ⟨oc, od, dt, osl⟩ := o
      rw [q] at h
      cases oc with
      | type c =>
        cases od with
        | none =>
          cases dt with
          | dict es' n' =>
            dsimp only at h ⊢
            split at h
            · have h1 := Option.some.inj h
              have hz : z ∉ ks := fun hz => by
                rw [← hk] at hz
                obtain ⟨p, hp, hpz⟩ := List.mem_map.mp hz
                have := List.lookup_eq_none_iff.mp e p hp
                rw [hpz] at this
                simp at this
              clear hv hk D
              have key : ∀ (l : List DictEntry) (ks : List Str), l.map He.keyOf = He.keysIn w.params ks → z ∉ ks → (l.find? (·.key.isStr z)) = none ∧ l.any (·.refKey) = false := by
                intro l
                induction l with
                | nil => intro ks _ _; exact ⟨rfl, rfl⟩
                | cons d l ih =>
                  intro ks hks hz
                  cases ks with
                  | nil => cases hks
                  | cons k ks =>
                    have h2 : He.keyOf d :: l.map He.keyOf = some (k, PyData.keyHash w.params k) :: He.keysIn w.params ks := hks
                    injection h2 with h3 h4
                    obtain ⟨i1, i2⟩ := ih ks h4 fun m => hz (List.mem_cons_of_mem _ m)
                    unfold He.keyOf at h3
                    split at h3
                    · rename_i y t hy
                      have h5 := Option.some.inj h3
                      obtain ⟨h6, _⟩ := Prod.mk.inj h5
                      have hne : y ≠ z := fun e => hz (by rw [← e, h6]; exact List.mem_cons_self)
                      have hs : d.key.isStr z = false := by
                        rw [hy]
                        simp [Value.isStr, hne]
                      have hr : d.refKey = false := by
                        simp [DictEntry.refKey, hy]
                      exact ⟨by rw [List.find?_cons, hs]; exact i1, by rw [List.any_cons, hr, i2]; rfl⟩
                    · cases h3
              obtain ⟨k1, k2⟩ := key _ ks h1 hz
              rw [k1]
              dsimp only
              rw [k2]
              rfl
            · cases h
          | _ => cases h
        | some b => cases dt <;> cases h
      | _ => cases od <;> cases dt <;> cases h
end
end Sh

set_option Elab.async false
set_option linter.all false
set_option maxRecDepth 100000
set_option maxHeartbeats 2000000
/-! ShT: raise of a class without own __init__; try with clauses, named or not. -/
namespace Sh
open PySem PySem.Spec PyProof.Rows L2

/-! ### raise C() -/
def sRaise0 (c : Str) : SM := fun e S => .exc ⟨c, []⟩ e S
structure RaC (K : PySem.W.Frag) (C : Addr) : Prop where
  ex : PySem.W.excIn K C He.veBase "ValueError.__new__" = true
  kp : PySem.W.keepIn K (.ref C) = true
  sb : PySem.W.subIn K (.ref C) (.type "BaseException") = some true
  ty : PySem.W.typeIn K (.ref C) = some (.type "type")
def RaOk (K : PySem.W.Frag) (mg : Str → Option Value) (c : Str) : Prop := ∃ C, mg c = some (.ref C) ∧ RaC K C
section
variable {X : Cx} {Wx : WX} {c : Str} {p pos pos' : Pos}
theorem pmk_none {C : Addr} (R : RaC X.K C) (m : X.mg c = some (.ref C)) (hg : Gl X c) (hdb : (c == ("__debug__" : Str)) = false := by decide) : PMk X (.Call (.Name c p) [] [] pos) (fun _ H Q => Q (.ref C) none H) := fun pins s σ H Q I h => by
  refine wpAny_Call_Name_kw (ld_glob I hg m (PySem.W.callWith_K0 I.kIn R.kp ?_) hdb)
  obtain ⟨bm, N, nm, qn, bs, hdct, sn, sub, ab, col, dd, k0, k1, k2, k3, k5, mN, hC, hN, hni, T⟩ := exc_obj I.kIn R.ex
  show wpAny _ _ (call (.ref C) []) _ _ _
  exact wpAny_call_exc_subT PySem.F.excBase_ValueError T hC hN hni (fun h' e hm => mk_of I hm (raises_own R.sb R.ty) h (I.hok.gone hm.new)) (Nat.zero_le _)
theorem ms_raise0 (R : RaOk X.K X.mg c) (hc : X.calm = true) (tk : Takes X Wx) (hg : Gl X c) (hdb : (c == ("__debug__" : Str)) = false := by decide) : MS X Wx (.Raise (some (.Call (.Name c p) [] [] pos)) none pos') (sRaise0 c) := by
  obtain ⟨C, m, R⟩ := R
  exact leS (ps_raise hc tk (pmk_none R m hg hdb)) fun D σ H ⟨e, S, φ, er, sr, q⟩ => q (.ref C) none σ H φ .refl er sr ⟨C, m, rfl, .inl ⟨rfl, rfl⟩⟩
end

/-! ### the clauses of a try, some with a name -/
abbrev Hd := Value × Option Nat × (Addr → Value → Option Addr → TS)
/-- the ends of a suite whose name goes -/
def goneD (i : Nat) (D : Ends) : Ends := ⟨fun σ H => D.nx (σ.set i none) H, D.rt, fun σ H => D.bk (σ.set i none) H, fun σ H => D.ct (σ.set i none) H⟩
/-- what one clause wishes, a the exception -/
def hdW (o : Option Nat) (ts : TS) (D : Ends) (a : Addr) : L2.St → Hp → Prop := fun σ H => match o with
  | none => ts D σ H
  | some i => ts (goneD i D) (σ.set i (some (.ref a))) H
def wHds (K : PySem.W.Frag) (Wout : WX) (D : Ends) : List Hd → WX
  | [] => Wout
  | p :: r => fun cls d σ H => ∃ b, PySem.W.exmOne K cls p.1 = some b ∧ (b = true → ∀ a, H a = none → hdW p.2.1 (p.2.2 a cls d) D a σ H) ∧ (b = false → wHds K Wout D r cls d σ H)
/-- a suite, of any exception -/
abbrev SuOk (X : Cx) (su : List Stmt) (ts : Addr → Value → Option Addr → TS) : Prop := ∀ (a : Addr) (oe : Obj) (cls : Value) (d : Option Addr) (pn : List (Addr × Obj)), Zc cls d oe → (∃ vs, oe.data = .fields vs) → PSs (X.suite a ((a, oe) :: pn)) su (ts a cls d)
inductive Hds (X : Cx) : List ExceptHandler → List Hd → Prop
  | nil : Hds X [] []
  | plain {x : Str} {c : Value} {ts : Addr → Value → Option Addr → TS} {b₀ : Stmt} {su : List Stmt} {np pp : Pos} {hs : List ExceptHandler} {l : List Hd} (hc : Names X x c) (h : SuOk X (b₀ :: su) ts) (r : Hds X hs l) :
    Hds X (.ExceptHandler (some (.Name x np)) none (b₀ :: su) pp :: hs) ((c, none, ts) :: l)
  | as {x n : Str} {i : Nat} {c : Value} {ts : Addr → Value → Option Addr → TS} {b₀ : Stmt} {su : List Stmt} {np pp : Pos} {hs : List ExceptHandler} {l : List Hd} (hc : Names X x c) (hN : X.N.Nodup) (hi : X.N[i]? = some n) (hl : X.env.kindOf n = some .local) (h : SuOk X (b₀ :: su) ts) (r : Hds X hs l) :
    Hds X (.ExceptHandler (some (.Name x np)) (some n) (b₀ :: su) pp :: hs) ((c, some i, ts) :: l)

/-- the clause's class is read where the exception is held -/
theorem names_ok {X : Cx} {pins : List (Addr × Obj)} {σ : L2.St} {H : Hp} {s : Shared} {x : Str} {c : Value} {np : Pos} (I : Inv X pins σ H s) (hc : Names X x c) {Q E : Value → Shared → Prop} (q : Q c s) :
    wpAny (model X.prog X.w) X.A (eval (.Name x np) X.env) Q E s := by
  obtain ⟨hg, hd, hm | ⟨hm, hv, hn⟩⟩ := hc
  · exact ld_glob I hg hm q hd
  · exact ld_blt I hg hm hv q hn hd

/-- the exception a of the body, on the ground, at this frame -/
structure Gnd (X : Cx) (pins : List (Addr × Obj)) (σ : L2.St) (H : Hp) (a : Addr) (cls : Value) (d : Option Addr) (B : Heap) (sI s : Shared) : Prop where
  inv : Inv X pins σ H sI
  nb : ∀ b o, sI.heap.get? b = some o → b ∉ frs X.stack → B.get? b = some o
  na : H a = none
  os : s.os = sI.os
  ag : AllBare s.gens
  up : sI.heap.UpToSlots s.heap
  fl : HandSPX.FlyingZ B (X.env :: X.outer) a (Zc cls d) s.heap
theorem Gnd.off {h B : Heap} {a : Addr} {l : List Env} {o : Obj} {vs : Array Value} (ff : h.FunFrames B l) (e : h.get? a = some o) (dd : o.data = .fields vs) : a ∉ frs l := fun hm => by
  obtain ⟨_, o', e', hn⟩ := ff.mem hm
  cases e.symm.trans e'
  exact hn _ dd
section
variable {X : Cx} {pins : List (Addr × Obj)} {σ : L2.St} {H : Hp} {a : Addr} {cls : Value} {d : Option Addr} {B : Heap} {sI s : Shared}
theorem Gnd.back (G : Gnd X pins σ H a cls d B sI s) : Inv X pins σ H s := G.inv.landed G.nb G.fl.1 G.up G.os G.ag
/-- the state as the suite's context has it -/
theorem Gnd.held (G : Gnd X pins σ H a cls d B sI s) (hf : X.env.frame = some X.env.locals) :
    ∃ oe, s.heap.get? a = some oe ∧ Zc cls d oe ∧ (∃ vs, oe.data = .fields vs) ∧ Inv (X.suite a ((a, oe) :: (X.pn ++ pins))) [] σ H s := by
  obtain ⟨oe, vs, he, hz, hd⟩ := G.fl.there
  have out := Gnd.off G.fl.2.2.1 he hd
  refine ⟨oe, he, hz, ⟨vs, hd⟩, G.back.suite he hd G.na (fun z => out ?_) fun z => out ?_⟩
  · exact List.mem_filterMap.mpr ⟨_, List.mem_cons_self, by rw [hf, z]⟩
  · obtain ⟨e, h1, h2⟩ := List.mem_filterMap.mp z
    exact List.mem_filterMap.mpr ⟨e, List.mem_cons_of_mem _ h1, h2⟩
/-- nobody takes it -/
theorem Gnd.pass {Wout : WX} {Q : Flow → Shared → Prop} (G : Gnd X pins σ H a cls d B sI s) (hs : X.stack = X.env :: X.outer) (hf : X.env.frame = some X.env.locals) (tk : Takes X Wout) (w : Wout cls d σ H) :
    wpAny (model X.prog X.w) X.A (handleBy (.ref a) X.env []) Q X.xe s := by
  refine wpAny_handleBy_nil ?_
  obtain ⟨_, _, _, oe, vs, T, _, _, he, _, hd, h1, _⟩ := id G.fl
  have fin : wpAny (model X.prog X.w) X.A (setFlight (.ref a) X.env.frame) (fun _ s4 => wpAny (model X.prog X.w) X.A (throw (.ref a) : Sem Flow) Q X.xe s4) X.xe s := by
    rw [hf]
    exact HandSPX.setFlight_upZ G.fl fun h4 hh4 up4 => wpAny_throw (tk _ _ ⟨a, B, sI, pins, σ, H, cls, d, rfl, G.inv, G.nb, G.up.trans up4, .inr (.inr (by rw [hs]; exact hh4)), G.na, G.os, G.ag, w⟩)
  unfold PySem.passOn
  refine wpAny_bind (wpAny_field he hd h1 ?_)
  rw [if_neg (by simp)]
  first | exact wpAny_bind (wpAny_pure (wpAny_bind fin)) | exact wpAny_bind fin
/-- the clauses, one by one -/
theorem Gnd.hand {Wout : WX} {D : Ends} (hs : X.stack = X.env :: X.outer) (hf : X.env.frame = some X.env.locals) (tk : Takes X Wout) (G : Gnd X pins σ H a cls d B sI s) : ∀ {hds : List ExceptHandler} {l : List Hd}, Hds X hds l → wHds X.K Wout D l cls d σ H →
    wpAny (model X.prog X.w) X.A (handleBy (.ref a) X.env hds) (SP X pins D) X.xe s := by
  have ok := G.inv.ok
  obtain ⟨oe, he, hz, hd, S⟩ := G.held hf
  have LT : PySem.W.Looks (model X.prog X.w) s.heap (typeOf (.ref a)) cls := fun A Q E s' k q => wpAny_typeOf_ref (k _ _ he) (by rw [hz.1]; exact q)
  -- it is held anew: the suite's own state
  have again : ∀ {Q : Unit → Shared → Prop} {A : Around} {E : Value → Shared → Prop}, (∀ s', Gnd X pins σ H a cls d B sI s' → Q () s') → wpAny (model X.prog X.w) A (setFlight (.ref a) none) Q E s := fun q =>
    HandSPX.lands_againZ G.fl fun h4 fl4 up4 => q _ ⟨G.inv, G.nb, G.na, G.os, G.ag, G.up.trans up4, fl4⟩
  intro hds l hk
  induction hk with
  | nil => exact fun w => G.pass hs hf tk w
  | plain hc h r ih =>
    intro ⟨b, e, yes, no⟩
    refine wpAny_handleBy_cons (codeAny_handlers_test (names_ok S hc ((PySem.W.exm_one (M := model X.prog X.w) S.kIn LT e).here ?_))) (by intro q; cases q)
    cases b with
    | false => exact ih (no rfl)
    | true =>
      refine codeAny_handlers_suite (again fun s4 G4 => ?_)
      obtain ⟨oe4, he4, hz4, hd4, S4⟩ := G4.held hf
      refine wpAny_mono ((h a oe4 cls d _ hz4 hd4).run [] _ _ H _ S4 (yes rfl a G.na)) (fun f s6 z => ?_) fun _ _ z => z.elim
      cases f with
      | ret u => obtain ⟨v, σ6, H6, S6, r6, q6⟩ := z; exact ⟨v, σ6, H6, S6.unsuite ok, r6, q6⟩
      | next => obtain ⟨σ6, H6, S6, q6⟩ := z; exact ⟨σ6, H6, S6.unsuite ok, q6⟩
      | brk => obtain ⟨σ6, H6, S6, q6⟩ := z; exact ⟨σ6, H6, S6.unsuite ok, q6⟩
      | cont => obtain ⟨σ6, H6, S6, q6⟩ := z; exact ⟨σ6, H6, S6.unsuite ok, q6⟩
  | as hc hN hi hl h r ih =>
    intro ⟨b, e, yes, no⟩
    refine wpAny_handleBy_cons (codeAny_handlers_test (names_ok S hc ((PySem.W.exm_one (M := model X.prog X.w) S.kIn LT e).here ?_))) (by intro q; cases q)
    cases b with
    | false => exact ih (no rfl)
    | true =>
      refine codeAny_handlers_suite_as (again fun s4 G4 => ?_)
      obtain ⟨oe4, he4, hz4, hd4, S4⟩ := G4.held hf
      refine store_ok (X := X.suite a ((a, oe4) :: (X.pn ++ pins))) (v := .ref a) S4 hN hi (.inl hl) rfl (fun s5 S5 => ?_) (.inr hl)
      refine wpAny_mono ((h a oe4 cls d _ hz4 hd4).run [] s5 _ H _ S5 (yes rfl a G.na)) (fun f s6 z => ?_) fun _ _ z => z.elim
      cases f with
      | ret u => obtain ⟨v, σ6, H6, S6, r6, q6⟩ := z; exact gone_ok (S6.unsuite ok) hN hi hl fun s7 J => ⟨v, _, H6, J, r6, q6⟩
      | next => obtain ⟨σ6, H6, S6, q6⟩ := z; exact gone_ok (S6.unsuite ok) hN hi hl fun s7 J => ⟨_, H6, J, q6⟩
      | brk => obtain ⟨σ6, H6, S6, q6⟩ := z; exact gone_ok (S6.unsuite ok) hN hi hl fun s7 J => ⟨_, H6, J, q6⟩
      | cont => obtain ⟨σ6, H6, S6, q6⟩ := z; exact gone_ok (S6.unsuite ok) hN hi hl fun s7 J => ⟨_, H6, J, q6⟩
end
/-- try: body, then clauses -/
theorem ps_hds {X : Cx} {body : List Stmt} {h₀ : ExceptHandler} {hds : List ExceptHandler} {l : List Hd} {pos : Pos} {tb : WX → TS} {Wout : WX} (hs : X.stack = X.env :: X.outer) (hf : X.env.frame = some X.env.locals) (tk : Takes X Wout)
    (hb : ∀ (W : WX) (pn : List (Addr × Obj)) (xe : Value → Shared → Prop), Takes (X.tr pn xe) W → PassesOwn (model X.prog X.w) X.A X.env xe → PSs (X.tr pn xe) body (tb W)) (hh : Hds X (h₀ :: hds) l) :
    PS X (.Try body (h₀ :: hds) [] [] pos) (fun D σ H => tb (wHds X.K Wout D l) D σ H) := by
  refine ⟨fun pins s σ H D I h => wpAny_Try_except ?_⟩
  have ok := I.ok
  refine wpAny_mono ((hb _ (X.pn ++ pins) _ (fun u s' xx => ?_) PassesOwn.looking).run [] s σ H D (I.toTry _) h) (fun f s1 z => ?_) fun e s1 he => he
  · obtain ⟨a, B, sI, pins', σ', H', cls, d, rfl, J', nb, up, sky, na, os, ag, w⟩ := xx
    rw [show (X.tr (X.pn ++ pins) _).stack = X.env :: X.outer from hs] at sky
    exact Sky.land Zc.steady (by rw [ok.frames, hs]) hf sky fun h3 fl3 up3 => Gnd.hand (s := { s' with heap := h3 }) hs hf tk ⟨J'.ofTry ok, nb, na, os, ag, up.trans up3, fl3⟩ hh w
  · cases f with
    | ret u => obtain ⟨v, σ', H', J, r, q⟩ := z; exact ⟨v, σ', H', J.ofTry ok, r, q⟩
    | next => obtain ⟨σ', H', J, q⟩ := z; exact wpAny_execs_nil ⟨σ', H', J.ofTry ok, q⟩
    | brk => obtain ⟨σ', H', J, q⟩ := z; exact ⟨σ', H', J.ofTry ok, q⟩
    | cont => obtain ⟨σ', H', J, q⟩ := z; exact ⟨σ', H', J.ofTry ok, q⟩

/-! ### the model -/
/-- an exception that leaves a suite is not known -/
def noX : RS → RS
  | .exc _ _ _ => .bad
  | r => r
def goneS (i : Nat) : RS → RS
  | .nx e S => .nx (e.set i none) S
  | .brk e S => .brk (e.set i none) S
  | .cnt e S => .cnt (e.set i none) S
  | .ret w S => .ret w S
  | _ => .bad
/-- a clause: its class, its name's slot, its suite -/
abbrev HM := Str × Option Nat × (Exn → SM)
def handM (sub : Str → Str → Bool) : List HM → Exn → En → Store → RS
  | [], x, e, S => .exc x e S
  | p :: r, x, e, S => if sub x.cls p.1 = true then (match p.2.1 with
    | none => noX (p.2.2 x e S)
    | some i => if i < e.length then goneS i (p.2.2 x (e.set i none) S) else .bad) else handM sub r x e S
/-- xs: the classes that are known -/
def sTry (xs : List Str) (sub : Str → Str → Bool) (b : SM) (l : List HM) : SM := fun e S => match b e S with
  | .exc x e1 S1 => if x.cls ∈ xs then handM sub l x e1 S1 else .bad
  | r => r
def clV (mg : Str → Option Value) (c : Str) : Value := (mg c).getD .none
def ExOk (K : PySem.W.Frag) (mg : Str → Option Value) (xs cs : List Str) (sub : Str → Str → Bool) : Prop := ∀ x c, x ∈ xs → c ∈ cs → PySem.W.exmOne K (clV mg x) (clV mg c) = some (sub x c)
/-- a suite's reading -/
def rHd (K : PySem.W.Frag) (mg : Str → Option Value) (o : Option Nat) (f : Exn → SM) : Addr → Value → Option Addr → TS := fun a cls d D σ H =>
  ∃ x e S φ, ER K mg H φ e σ ∧ SR K mg H φ S ∧ XR K mg H φ x cls d ∧ (∀ i, o = some i → σ[i]? = some (some (.ref a))) ∧ PostS K mg NoX D H φ (f x e S)
abbrev MHs (X : Cx) (hds : List ExceptHandler) (l : List HM) : Prop := Hds X hds (l.map fun p => (clV X.mg p.1, p.2.1, rHd X.K X.mg p.2.1 p.2.2))
section
variable {X : Cx} {Wx : WX} {c n : Str} {i : Nat} {np pp pos : Pos} {b₀ : Stmt} {su body : List Stmt} {hs : List ExceptHandler} {l : List HM} {M : SM} {f : Exn → SM}
theorem clV_names {C : Addr} (hm : X.mg c = some (.ref C)) (hg : Gl X c) (hdb : (c == ("__debug__" : Str)) = false := by decide) : Names X c (clV X.mg c) := ⟨hg, hdb, .inl (by unfold clV; rw [hm]; rfl)⟩
theorem mh_nil : MHs X [] [] := .nil
theorem mh_plain (hm : ∃ C, X.mg c = some (.ref C)) (hg : Gl X c) (h : ∀ (a : Addr) (q : Addr × Obj) (pn : List (Addr × Obj)), MSs (X.suite a (q :: pn)) NoX (b₀ :: su) M) (r : MHs X hs l) (hdb : (c == ("__debug__" : Str)) = false := by decide) :
    MHs X (.ExceptHandler (some (.Name c np)) none (b₀ :: su) pp :: hs) ((c, none, fun _ => M) :: l) := by
  obtain ⟨C, hm⟩ := hm
  exact .plain (clV_names hm hg hdb) (fun a oe cls d pn _ _ => leSs (h a (a, oe) pn) fun D σ H ⟨x, e, S, φ, er, sr, _, _, q⟩ => ⟨e, S, φ, er, sr, q⟩) r
theorem mh_as (hm : ∃ C, X.mg c = some (.ref C)) (hg : Gl X c) (hN : X.N.Nodup) (hi : X.N[i]? = some n) (hl : X.env.kindOf n = some .local) (h : SuOk X (b₀ :: su) (rHd X.K X.mg (some i) f)) (r : MHs X hs l) (hdb : (c == ("__debug__" : Str)) = false := by decide) :
    MHs X (.ExceptHandler (some (.Name c np)) (some n) (b₀ :: su) pp :: hs) ((c, some i, f) :: l) := by
  obtain ⟨C, hm⟩ := hm
  exact .as (clV_names hm hg hdb) hN hi hl h r
/-- the slot holds what the model does not name -/
theorem ER.hold {K : PySem.W.Frag} {mg : Str → Option Value} {H : Hp} {φ : Fi} {e : En} {σ : L2.St} (h : ER K mg H φ e σ) {i : Nat} {v : V} : ER K mg H φ (e.set i none) (σ.set i (some v)) := by
  refine ⟨by simp [h.len], fun j w q => ?_⟩
  by_cases hj : i = j
  · subst hj
    rw [List.getElem?_set] at q
    split at q
    · split at q <;> cases q
    · exact absurd rfl ‹_›
  · rw [List.getElem?_set_ne hj] at q
    obtain ⟨u, a, b⟩ := h.at_ j w q
    exact ⟨u, by rw [List.getElem?_set_ne hj]; exact a, b⟩
theorem hand_read {K : PySem.W.Frag} {mg : Str → Option Value} {xs cs : List Str} {sub : Str → Str → Bool} (ex : ExOk K mg xs cs sub) {D : Ends} {x : Exn} {e : En} {S : Store} {H : Hp} {φ : Fi} {σ : L2.St} {cls : Value} {d : Option Addr} (hx : x.cls ∈ xs) (er : ER K mg H φ e σ) (sr : SR K mg H φ S) (xr : XR K mg H φ x cls d) :
    ∀ {l : List HM}, (∀ p ∈ l, p.1 ∈ cs) → PostS K mg Wx D H φ (handM sub l x e S) → wHds K Wx D (l.map fun p => (clV mg p.1, p.2.1, rHd K mg p.2.1 p.2.2)) cls d σ H
  | [], _, q => q cls d σ H φ .refl er sr xr
  | p :: r, hc, q => by
    have ec : cls = clV mg x.cls := by
      obtain ⟨C, m, e, _⟩ := xr
      unfold clV
      rw [m, e]; rfl
    refine ⟨sub x.cls p.1, by rw [ec]; exact ex _ _ hx (hc p List.mem_cons_self), fun hb a na => ?_, fun hb => hand_read ex hx er sr xr (fun p hp => hc p (List.mem_cons_of_mem _ hp)) (by rw [handM, if_neg (by rw [hb]; exact Bool.false_ne_true)] at q; exact q)⟩
    rw [handM, if_pos hb] at q
    obtain ⟨c, o, f⟩ := p
    cases o with
    | none =>
      refine ⟨x, e, S, φ, er, sr, xr, (fun i z => by cases z), ?_⟩
      dsimp only at q ⊢
      cases ef : f x e S with
      | exc _ _ _ => rw [ef] at q; exact q.elim
      | bad => rw [ef] at q; exact q.elim
      | nx _ _ => rw [ef] at q; exact q
      | ret _ _ => rw [ef] at q; exact q
      | brk _ _ => rw [ef] at q; exact q
      | cnt _ _ => rw [ef] at q; exact q
    | some i =>
      dsimp only at q
      split at q
      · rename_i hi
        refine ⟨x, e.set i none, S, φ, er.hold, sr, xr, fun j z => by cases z; exact List.getElem?_set_self (by rw [← er.len]; exact hi), ?_⟩
        dsimp only
        cases ef : f x (e.set i none) S with
        | exc _ _ _ => rw [ef] at q; exact q.elim
        | bad => rw [ef] at q; exact q.elim
        | nx _ _ => rw [ef] at q; exact fun σ' H' φ' x' er' sr' => q _ H' φ' x' er'.forget sr'
        | ret _ _ => rw [ef] at q; exact q
        | brk _ _ => rw [ef] at q; exact fun σ' H' φ' x' er' sr' => q _ H' φ' x' er'.forget sr'
        | cnt _ _ => rw [ef] at q; exact fun σ' H' φ' x' er' sr' => q _ H' φ' x' er'.forget sr'
      · exact q.elim
theorem ms_try {h₀ : ExceptHandler} {xs cs cl : List Str} {sub : Str → Str → Bool} (hst : X.stack = X.env :: X.outer) (hf : X.env.frame = some X.env.locals) (tk : Takes X Wx) (ex : ExOk X.K X.mg xs cs sub)
    (hb : ∀ (W : WX) (pn : List (Addr × Obj)) (xe : Value → Shared → Prop), Takes (X.tr pn xe) W → PassesOwn (model X.prog X.w) X.A X.env xe → MSs (X.tr pn xe) W body M) (hh : MHs X (h₀ :: hs) l) (hl : l.map (·.1) = cl) (hc : ∀ c ∈ cl, c ∈ cs) :
    MS X Wx (.Try body (h₀ :: hs) [] [] pos) (sTry xs sub M l) := leS (ps_hds (tb := fun W => rS X.K X.mg W M) hst hf tk hb hh) fun D σ H ⟨e, S, φ, er, sr, q⟩ => ⟨e, S, φ, er, sr, by
  unfold sTry at q
  cases em : M e S with
  | exc x e1 S1 =>
    rw [em] at q
    dsimp only at q
    split at q
    · rename_i hx
      exact fun cls d σ' H' φ' y er' sr' xr => hand_read ex hx er' sr' xr (fun p hp => hc _ (hl ▸ List.mem_map_of_mem hp)) (PostS.ext y q)
    · exact q.elim
  | bad => rw [em] at q; exact q
  | nx _ _ => rw [em] at q; exact q
  | ret _ _ => rw [em] at q; exact q
  | brk _ _ => rw [em] at q; exact q
  | cnt _ _ => rw [em] at q; exact q⟩
end

/-! ### what a suite says of the exception that it holds -/
abbrev XF := Exn → Option W
def evF : List XF → Exn → Option (List W)
  | [], _ => some []
  | f :: fs, x => match f x, evF fs x with
    | some w, some ws => some (w :: ws)
    | _, _ => none
def rXI (K : PySem.W.Frag) (mg : Str → Option Value) (i : Nat) (a : Addr) (cls : Value) (d : Option Addr) (f : XF) : TE := fun σ H Q => ∃ x φ w, XR K mg H φ x cls d ∧ σ[i]? = some (some (.ref a)) ∧ f x = some w ∧ ∀ v, VR K mg H φ w v → Q v H
def rXIs (K : PySem.W.Frag) (mg : Str → Option Value) (i : Nat) (a : Addr) (cls : Value) (d : Option Addr) (fs : List XF) : TA := fun σ H Q => ∃ x φ ws, XR K mg H φ x cls d ∧ σ[i]? = some (some (.ref a)) ∧ evF fs x = some ws ∧ ∀ vs, VRs K mg H φ ws vs → Q vs H
/-- an item, its value by the exception alone -/
abbrev XI (X : Cx) (i : Nat) (f : XF) (e : Expr) : Prop := ∀ (a : Addr) (oe : Obj) (cls : Value) (d : Option Addr) (pn : List (Addr × Obj)), Zc cls d oe → (∃ vs, oe.data = .fields vs) → PE (X.suite a ((a, oe) :: pn)) e (rXI X.K X.mg i a cls d f)
abbrev XIs (X : Cx) (i : Nat) (fs : List XF) (es : List Expr) : Prop := ∀ (a : Addr) (oe : Obj) (cls : Value) (d : Option Addr) (pn : List (Addr × Obj)), Zc cls d oe → (∃ vs, oe.data = .fields vs) → PA (X.suite a ((a, oe) :: pn)) es (rXIs X.K X.mg i a cls d fs)
def fC (w : W) : XF := fun _ => some w
def fAnd (f g : XF) : XF := fun x => match f x with
  | some (.bl true) => g x
  | some (.bl false) => some (.bl false)
  | _ => none
def fNot (f : XF) : XF := fun x => match f x with
  | some (.bl b) => some (.bl !b)
  | _ => none
/-- isinstance(e, c): t tells it of the class -/
def fIs (t : Str → Option Bool) : XF := fun x => if x.fs.isEmpty = true then (t x.cls).map W.bl else none
section
variable {X : Cx} {i j : Nat} {f g : XF} {e b : Expr} {es rest : List Expr} {pos p p2 : Pos}
theorem xi_str {x : Str} {k : Nat} : XI X i (fC (.str x)) (.Constant (.str x) k pos) := fun a oe cls d pn _ _ => leE pe_str fun σ H Q ⟨x, φ, w, _, _, e, q⟩ => by cases e; exact q _ rfl
theorem xi_int {x : Int} {k : Nat} : XI X i (fC (.int x)) (.Constant (.int x) k pos) := fun a oe cls d pn _ _ => leE pe_int fun σ H Q ⟨x, φ, w, _, _, e, q⟩ => by cases e; exact q _ rfl
theorem xi_bl {x : Bool} {k : Nat} : XI X i (fC (.bl x)) (.Constant (.bool x) k pos) := fun a oe cls d pn _ _ => leE pe_bl fun σ H Q ⟨x, φ, w, _, _, e, q⟩ => by cases e; exact q _ rfl
theorem xi_non {k : Nat} : XI X i (fC .non) (.Constant .none k pos) := fun a oe cls d pn _ _ => leE pe_non fun σ H Q ⟨x, φ, w, _, _, e, q⟩ => by cases e; exact q _ rfl
theorem xi_one {op : BoolOp} (h : XI X i f e) : XI X i f (.BoolOp op [e] pos) := fun a oe cls d pn hz hd => pe_one (h a oe cls d pn hz hd)
theorem xi_and (h : XI X i f e) (h2 : XI X i g (.BoolOp .And (b :: rest) pos)) : XI X i (fAnd f g) (.BoolOp .And (e :: b :: rest) pos) := fun a oe cls d pn hz hd => leE (pe_and (h a oe cls d pn hz hd) (h2 a oe cls d pn hz hd)) fun σ H Q ⟨x, φ, w, xr, hi, e, q⟩ => by
  unfold fAnd at e
  split at e
  · rename_i e1; exact ⟨x, φ, _, xr, hi, e1, fun v r => ⟨true, r, by rw [if_pos rfl]; exact ⟨x, φ, w, xr, hi, e, q⟩⟩⟩
  · rename_i e1; cases e; exact ⟨x, φ, _, xr, hi, e1, fun v r => ⟨false, r, by rw [if_neg Bool.false_ne_true]; exact q _ rfl⟩⟩
  · cases e
theorem xi_not (h : XI X i f e) : XI X i (fNot f) (.UnaryOp .Not e pos) := fun a oe cls d pn hz hd => leE (pe_not (h a oe cls d pn hz hd)) fun σ H Q ⟨x, φ, w, xr, hi, e, q⟩ => by
  unfold fNot at e
  split at e
  · rename_i b e1; cases e; exact ⟨x, φ, _, xr, hi, e1, fun v r => ⟨b, r, q _ rfl⟩⟩
  · cases e
/-- the classes whose instances isinstance is asked of -/
def IsOk (K : PySem.W.Frag) (mg : Str → Option Value) (cv : Value) (t : Str → Option Bool) : Prop := ∀ x b, t x = some b → ∃ D, mg x = some (.ref D) ∧ ExcC K D ∧ PySem.W.kitOne K (.ref D) cv = some b
theorem xi_is {x : Str} {cv : Value} {c : V} {ce : Expr} {t : Str → Option Bool} (h : IsOk X.K X.mg cv t) (hv : ∀ (a : Addr) (q : Addr × Obj) (pn : List (Addr × Obj)), PE (X.suite a (q :: pn)) (.Name x p) (tVar i)) (hcv : ∀ u, RelV c u → u = cv) (hc : ∀ (a : Addr) (q : Addr × Obj) (pn : List (Addr × Obj)), PE (X.suite a (q :: pn)) ce (fun _ H Q => Q c H))
    (hg : Gl X "isinstance") (hm : X.mg "isinstance" = none)
    (hs1 : starEach [Expr.Name x p, ce] X.env = (false, eval (.Name x p) X.env) :: starEach [ce] X.env := by rfl) (hs2 : starEach [ce] X.env = (false, eval ce X.env) :: starEach [] X.env := by rfl) (hpl : (backTo pos (starEach [ce] X.env)).any (·.1) = false := by rfl) :
    XI X i (fIs t) (.Call (.Name "isinstance" p2) [.Name x p, ce] [] pos) := fun a oe cls d pn hz hd => ⟨fun pins s σ H Q I ⟨y, φ, w, xr, hi, e, q⟩ => by
  unfold fIs at e
  split at e
  · rename_i hf
    simp only [Option.map_eq_some_iff] at e
    obtain ⟨k, e1, e2⟩ := e
    subst e2
    obtain ⟨D, m, XC, kt⟩ := h y.cls k e1
    obtain ⟨C, m', ec, xr'⟩ := xr
    rw [m] at m'; cases m'
    have ed : d = none := by
      rcases xr' with ⟨_, z⟩ | ⟨_, _, z, _⟩
      · exact z
      · exact absurd (List.isEmpty_iff.mp hf) z
    subst ec ed
    exact (pe_callB (call_isE XC hz hd) hg hm boot_isinstance (pa_cons (hv a (a, oe) pn) (pa_cons (hc a (a, oe) pn) pa_nil hs2) hs1) (by decide) (by decide) hs1 hpl).run pins s σ H Q I ⟨_, hi, c, cv, k, rfl, hcv, kt, q _ rfl⟩
  · cases e⟩
/-- .. an own class -/
theorem xi_isO {x y : Str} {t : Str → Option Bool} {yp : Pos} (h : IsOk X.K X.mg (clV X.mg y) t) (hv : ∀ (a : Addr) (q : Addr × Obj) (pn : List (Addr × Obj)), PE (X.suite a (q :: pn)) (.Name x p) (tVar i)) (hu : ∃ u, X.mg y = some (.ref u)) (hgy : Gl X y) (hg : Gl X "isinstance") (hm : X.mg "isinstance" = none)
    (hs1 : starEach [Expr.Name x p, Expr.Name y yp] X.env = (false, eval (.Name x p) X.env) :: starEach [Expr.Name y yp] X.env := by rfl) (hs2 : starEach [Expr.Name y yp] X.env = (false, eval (.Name y yp) X.env) :: starEach [] X.env := by rfl) (hpl : (backTo pos (starEach [Expr.Name y yp] X.env)).any (·.1) = false := by rfl) (hdb : (y == ("__debug__" : Str)) = false := by decide) :
    XI X i (fIs t) (.Call (.Name "isinstance" p2) [.Name x p, .Name y yp] [] pos) := by
  obtain ⟨u, hu⟩ := hu
  have eu : clV X.mg y = .ref u := by unfold clV; rw [hu]; rfl
  exact xi_is (c := .ref u) h hv (fun w e => by rw [eu]; exact e) (fun a q pn => pe_glob (v := .ref u) hgy hu rfl hdb) hg hm hs1 hs2 hpl
/-- .. a built-in class -/
theorem xi_isB {x y : Str} {n : String} {t : Str → Option Bool} {yp : Pos} (h : IsOk X.K X.mg (.type n) t) (hvx : ∀ (a : Addr) (q : Addr × Obj) (pn : List (Addr × Obj)), PE (X.suite a (q :: pn)) (.Name x p) (tVar i)) (hmy : X.mg y = none) (hv : bootBuiltins y = some (.type n)) (hgy : Gl X y) (hg : Gl X "isinstance") (hm : X.mg "isinstance" = none)
    (hs1 : starEach [Expr.Name x p, Expr.Name y yp] X.env = (false, eval (.Name x p) X.env) :: starEach [Expr.Name y yp] X.env := by rfl) (hs2 : starEach [Expr.Name y yp] X.env = (false, eval (.Name y yp) X.env) :: starEach [] X.env := by rfl) (hpl : (backTo pos (starEach [Expr.Name y yp] X.env)).any (·.1) = false := by rfl) (hn : y ≠ "__name__" := by decide) (hdb : (y == ("__debug__" : Str)) = false := by decide) :
    XI X i (fIs t) (.Call (.Name "isinstance" p2) [.Name x p, .Name y yp] [] pos) :=
  xi_is (c := .ty n) h hvx (fun w e => e) (fun a q pn => pe_bltn (v := .ty n) hgy hmy hv rfl hn hdb) hg hm hs1 hs2 hpl
theorem xs_nil : XIs X i [] [] := fun a oe cls d pn _ _ => leA pa_nil fun σ H Q ⟨x, φ, ws, _, _, e, q⟩ => by cases e; exact q _ .nil
theorem xs_cons {fs : List XF} (h : XI X i f e) (r : XIs X i fs es) (hs : starEach (e :: es) X.env = (false, eval e X.env) :: starEach es X.env := by rfl) : XIs X i (f :: fs) (e :: es) := fun a oe cls d pn hz hd => leA (pa_cons (h a oe cls d pn hz hd) (r a oe cls d pn hz hd) hs) fun σ H Q ⟨x, φ, ws, xr, hi, e, q⟩ => by
  unfold evF at e
  split at e
  · rename_i w ws' e1 e2
    cases e
    exact ⟨x, φ, w, xr, hi, e1, fun v rv => ⟨x, φ, ws', xr, hi, e2, fun vs rs => q _ (.cons rv rs)⟩⟩
  · cases e
end
/-- t = (item, ..) -/
def sXT (j : Nat) (fs : List XF) (x : Exn) : SM := fun e S => match evF fs x with
  | some ws => if ws.length ≤ sizeLine then .nx (e.set j (some (.tup ws))) S else .bad
  | none => .bad
/-- t = item -/
def sXV (j : Nat) (f : XF) (x : Exn) : SM := fun e S => match f x with
  | some w => .nx (e.set j (some w)) S
  | none => .bad
section
variable {X : Cx} {i j : Nat} {f : XF} {fs : List XF} {e : Expr} {es : List Expr} {y : Str} {pos p p2 : Pos} {k : Nat}
theorem mx_tup (hN : X.N.Nodup) (hj : X.N[j]? = some y) (hy : Loc X.env.scope y) (h : XIs X i fs es) (hs : swapsWith (.Tuple es k p2) (some (.Name y p)) pos.line X.env = pure false := by rfl) (hf : X.fn y = true ∨ X.env.scope.names.lookup y = some .local := by first | exact .inl rfl | exact .inr rfl | assumption) :
    SuOk X [.Assign [.Name y p] (.Tuple es k p2) pos] (rHd X.K X.mg (some i) (sXT j fs)) := fun a oe cls d pn hz hd => leSs (pss_one (ps_set hN hj hy (pe_tup (h a oe cls d pn hz hd)) hs hf)) fun D σ H ⟨x, e, S, φ, er, sr, xr, hi, q⟩ => by
  unfold sXT at q
  split at q
  · rename_i ws e1
    split at q
    · rename_i hz
      refine ⟨x, φ, ws, xr, hi i rfl, e1, fun vs r => ⟨szv r hz, fun b hb => ?_⟩⟩
      obtain ⟨x', s'⟩ := sr.extra (o := .tup vs) hb
      exact q _ _ φ x' ((er.mono x').set (by simp only [VR]; exact ⟨b, vs, rfl, .inl upd_same, r.mono x'⟩)) s'
    · exact q.elim
  · exact q.elim
theorem mx_val (hN : X.N.Nodup) (hj : X.N[j]? = some y) (hy : Loc X.env.scope y) (h : XI X i f e) (hs : swapsWith e (some (.Name y p)) pos.line X.env = pure false := by rfl) (hf : X.fn y = true ∨ X.env.scope.names.lookup y = some .local := by first | exact .inl rfl | exact .inr rfl | assumption) :
    SuOk X [.Assign [.Name y p] e pos] (rHd X.K X.mg (some i) (sXV j f)) := fun a oe cls d pn hz hd => leSs (pss_one (ps_set hN hj hy (h a oe cls d pn hz hd) hs hf)) fun D σ H ⟨x, e, S, φ, er, sr, xr, hi, q⟩ => by
  unfold sXV at q
  split at q
  · rename_i w e1
    exact ⟨x, φ, w, xr, hi i rfl, e1, fun v r => q _ H φ .refl (er.set r) sr⟩
  · exact q.elim
end

/-! ### from the head's facts -/
section
variable {K : PySem.W.Frag} {mg : Str → Option Value}
theorem ra_ok {c : Str} (m : mg c = some (.ref (He.ga K c))) (h : (He.Fa.exc c).ok K = true) : RaOk K mg c := by
  obtain ⟨h1, h2, h3, h4⟩ := He.exc_ok h
  exact ⟨_, m, h1, h2, h3, h4⟩
theorem exm_cl {x y : Str} {b : Bool} (m1 : mg x = some (.ref (He.ga K x))) (m2 : mg y = some (.ref (He.ga K y))) (h : (He.Fa.exm x y b).ok K = true) : PySem.W.exmOne K (clV mg x) (clV mg y) = some b := by
  unfold clV; rw [m1, m2]; exact He.exm_ok h
abbrev ExL (K : PySem.W.Frag) (mg : Str → Option Value) (L : List (Str × Str × Bool)) : Prop := ∀ p ∈ L, PySem.W.exmOne K (clV mg p.1) (clV mg p.2.1) = some p.2.2
theorem ex_nil : ExL K mg [] := fun _ h => by cases h
theorem ex_cons {x y : Str} {b : Bool} {L : List (Str × Str × Bool)} (h : PySem.W.exmOne K (clV mg x) (clV mg y) = some b) (r : ExL K mg L) : ExL K mg ((x, y, b) :: L) := fun p hp => by
  rcases List.mem_cons.mp hp with rfl | hp
  · exact h
  · exact r p hp
theorem ex_of {L : List (Str × Str × Bool)} {xs cs : List Str} {sub : Str → Str → Bool} (h : ExL K mg L) (t : ∀ x ∈ xs, ∀ c ∈ cs, (x, c, sub x c) ∈ L) : ExOk K mg xs cs sub := fun x c hx hc => h _ (t x hx c hc)
theorem xcB_ok {D : Addr} (h : xcB K D = true) : ExcC K D := by
  unfold xcB at h
  simp only [Bool.and_eq_true, decide_eq_true_eq] at h
  obtain ⟨h1, h2, h3, h4, h5, h6, h7, h8⟩ := h
  exact ⟨h1, h2, h3, h4, h5, h6, h7, h8⟩
theorem is_of {cv : Value} {L : List (Str × Bool)} (hm : ∀ p ∈ L, mg p.1 = some (.ref (He.ga K p.1))) (h : kiB K cv L = true) : IsOk K mg cv fun x => L.lookup x := fun x b e => by
  have key : ∀ L : List (Str × Bool), L.lookup x = some b → (x, b) ∈ L := by
    intro L
    induction L with
    | nil => intro e; cases e
    | cons p L ih =>
      intro e
      obtain ⟨y, c⟩ := p
      rw [List.lookup_cons] at e
      split at e
      · rename_i hy
        cases e
        rw [show x = y from eq_of_beq hy]
        exact List.mem_cons_self
      · exact List.mem_cons_of_mem _ (ih e)
  have hp := key L e
  have z := List.all_eq_true.mp h _ hp
  rw [Bool.and_eq_true, decide_eq_true_eq] at z
  exact ⟨_, hm _ hp, xcB_ok z.1, z.2⟩
end
end Sh

set_option Elab.async false
set_option linter.all false
set_option maxRecDepth 100000
set_option maxHeartbeats 4000000
/-! ShI: an exception class of the program whose __init__ says super().__init__("..") and then stores its arguments. -/
namespace Sh
open PySem PySem.Spec PyProof.Rows L2 PySem.W PySem.Calls

/-! ### over the heap -/
/-- self.f = a, self.f = a, .. -/
inductive Sto : List Stmt → List (Str × Str) → Prop
  | nil : Sto [] []
  | cons {f a : Str} {q1 q2 q3 q4 : Pos} {r : List Stmt} {l : List (Str × Str)} (h : Sto r l) : Sto (.Assign [.Attribute (.Name "self" q1) f q2] (.Name a q3) q4 :: r) ((f, a) :: l)
abbrev exR (C t : Addr) (d : Option Addr) : Obj := { cls := .ref C, dict := d, data := .fields #[.ref t, .none, .none, .none, .bool false, .none] }
section
variable {prog : Program} {w : World} {A : Around} {E : Value → Shared → Prop} {K : Frag} {e C fI L t1 : Addr} {hp h : Heap} {g : Array GenState} {d : Drawn} {t : Nat} {os : OsState} {env : Env} {m mg mb : Str → Option Value}
/-- what the walk through the stores keeps: e with its dict, the frame, all else -/
structure StI (hp h : Heap) (L e : Addr) (m : Str → Option Value) : Prop where
  keep : ∀ b o, b ≠ e → hp.get? b = some o → h.get? b = some o
  ns : h.Ns L m
  le : L ≠ e
  lo : hp.objs.size ≤ L
theorem ns_keep {h h' : Heap} (n : h.Ns L m) (k : ∀ o, h.get? L = some o → h'.get? L = some o) : h'.Ns L m := by
  obtain ⟨oL, es, ep, hL, r⟩ := n
  exact ⟨oL, es, ep, k _ hL, r⟩
theorem StI.step {h h' : Heap} (I : StI hp h L e m) (k : ∀ b o, b ≠ e → h.get? b = some o → h'.get? b = some o) : StI hp h' L e m :=
  ⟨fun b o n q => k b o n (I.keep b o n q), ns_keep I.ns fun o q => k L o I.le q, I.le, I.lo⟩
/-- the exception and its dict -/
def ExD (hp h : Heap) (L e C t1 : Addr) (fs : List (Str × Value)) : Prop := (fs = [] ∧ h.get? e = some (exR C t1 none)) ∨ ∃ dx, h.get? e = some (exR C t1 (some dx)) ∧ hp.objs.size ≤ dx ∧ dx ≠ e ∧ dx ≠ L ∧ h.Ns1 dx fun y => fs.lookup y
theorem look_put {f : Str} {v : Value} {fs : List (Str × Value)} : (fun y => ((f, v) :: fs).lookup y) = fun y => if y = f then some v else fs.lookup y := by
  funext y
  rw [List.lookup_cons]
  by_cases h : y = f
  · subst h; simp
  · have : (y == f) = false := by simpa using h
    rw [this, if_neg h]
theorem look_in {fs : List (Str × Value)} : Within (fun y => fs.lookup y) (fs.map (·.1)) := fun y hy => by
  induction fs with
  | nil => exact absurd rfl hy
  | cons p fs ih =>
    rw [look_put] at hy
    by_cases h : y = p.1
    · rw [h]; simp
    · have hy : (if y = p.1 then some p.2 else fs.lookup y) ≠ none := hy
      rw [if_neg h] at hy
      exact List.mem_cons_of_mem _ (ih hy)
theorem sto_run (T : OexC K C) (KI : ∀ a o, K.lookup a = some o → hp.get? a = some o ∧ a ≠ e) (hk : env.scope.kind = .function) (hL : env.locals = L) (ks : env.kindOf "self" = some .local) (ms : m "self" = some (.ref e)) {val : Str → Value} :
    ∀ {rest : List Stmt} {fl : List (Str × Str)}, Sto rest fl → ∀ {h : Heap} {t : Nat} {fs : List (Str × Value)} {Q : Flow → Shared → Prop}, (∀ p ∈ fl, findIn K (.ref C) p.1 = some none ∧ env.kindOf p.2 = some .local ∧ (p.2 == ("__debug__" : Str)) = false ∧ m p.2 = some (val p.2)) →
      StI hp h L e m → ExD hp h L e C t1 fs → fs.length + fl.length ≤ 900 →
      (∀ h' t', StI hp h' L e m → ExD hp h' L e C t1 ((fl.map fun p => (p.1, val p.2)).reverse ++ fs) → Q .next ⟨h', g, d, t', os⟩) → wpAny (model prog w) A (execs rest env) Q E ⟨h, g, d, t, os⟩ := by
  intro rest fl S
  induction S with
  | nil => intro h t fs Q _ St Ex _ hq; exact wpAny_execs_nil (hq h t St (by simpa using Ex))
  | @cons f a q1 q2 q3 q4 r l S ih =>
    intro h t fs Q hfl St Ex hl hq
    obtain ⟨hno, ka, kd, ma⟩ := hfl (f, a) List.mem_cons_self
    have X : K.In h := fun b o q => St.keep b o (KI b o q).2 (KI b o q).1
    obtain ⟨nm, qq, N, bs, bm, sn, sub, ab, col, dd, k0, k1, k2, k3, k5, hC, hbm⟩ := T.cls
    have hcl : clsIn K C = some { name := nm, bases := bs, mro := .ref C :: bm, ns := N, qualname := qq, hasDict := true, slotNames := sn, subclasses := sub, abstract := ab, collection := col, hasDel := false } := by unfold clsIn; rw [hC] <;> rfl
    have hbm' : HandSPX.refsVE (.ref C :: bm) = true := hbm
    have nsL : h.Ns env.locals m := by rw [hL]; exact St.ns
    -- the next statement
    have nxt : ∀ {h' : Heap} {t' : Nat}, StI hp h' L e m → ExD hp h' L e C t1 ((f, val a) :: fs) → wpAny (model prog w) A (execs r env) Q E ⟨h', g, d, t', os⟩ := fun St' Ex' =>
      ih (fun p hp => hfl p (List.mem_cons_of_mem _ hp)) St' Ex' (by simp only [List.length_cons] at hl ⊢; omega) fun h2 t2 S2 E2 => hq h2 t2 S2 (by simpa using E2)
    refine wpAny_execs_cons (plainObj_wpAny_Assign_Attribute (wpAny_Name (wpAny_loadName_local hk ka nsL ma ?_) kd))
    refine wpAny_Name (wpAny_loadName_local hk ks nsL ms ?_) (by decide)
    rcases Ex with ⟨rfl, he⟩ | ⟨dx, he, hdx, hde, hdL, hns⟩
    · refine set_plain X (ox := exR C t1 none) (od := none) ⟨he, rfl, rfl, trivial⟩ T.sa ?_
      refine HandSPX.exc_osa X he hcl hbm' rfl hno fun h' t' dx k hd hne hx hn => ?_
      have hLs : L < h.objs.size := by
        obtain ⟨oL, es, ep, hL', r⟩ := St.ns
        exact Heap.lt_size hL'
      have hd' : h.objs.size ≤ dx := hd
      have hlo := St.lo
      refine nxt (St.step k) (.inr ⟨dx, hx, Nat.le_trans hlo (Nat.le_trans (Nat.le_of_lt hLs) hd'), hne, Nat.ne_of_gt (Nat.lt_of_lt_of_le hLs hd'), ?_⟩)
      rw [look_put]; exact hn
    · obtain ⟨oD, _, _, hoD, _, _⟩ := hns.count look_in
      refine set_plain X (ox := exR C t1 (some dx)) (od := some oD) ⟨he, rfl, rfl, hoD⟩ T.sa ?_
      refine OEX.osa_old X he hns look_in (by rw [List.length_map]; simp only [List.length_cons] at hl; omega) hcl hbm' rfl hno fun h' t' k hn => ?_
      refine nxt ⟨fun b o n q => k b o (fun z => ?_) (St.keep b o n q), ns_keep St.ns fun o q => k L o (Ne.symm hdL) q, St.le, St.lo⟩ (.inr ⟨dx, k e _ (Ne.symm hde) he, hdx, hde, hdL, ?_⟩)
      · have := Heap.lt_size q
        rw [z] at this
        exact absurd (Nat.lt_of_lt_of_le this hdx) (Nat.lt_irrefl _)
      · rw [look_put]; exact hn
/-- super().__init__("..") -/
abbrev supCall (p0 p1 p2 p3 p4 : Pos) (j : Nat) (x : Str) : Expr := .Call (.Attribute (.Call (.Name "super" p0) [] [] p1) "__init__" p2) [.Constant (.str x) j p3] [] p4
/-- its reading, by its places -/
def SupEv (p0 p1 p2 p3 p4 : Pos) (j : Nat) (x : Str) : Prop := ∀ env : Env, ∃ pl : Sem Bool, eval (supCall p0 p1 p2 p3 p4 j x) env = (do
  let ov ← attributeBase (.Call (.Name "super" p0) [] [] p1) "__init__" env (eval (.Call (.Name "super" p0) [] [] p1) env)
  standAt p2.atName
  let (f, first) ← holding [ov] (getMethod ov "__init__" pl)
  callWith p4 f first (backTo p4 (starEach [.Constant (.str x) j p3] env)) [])
/-- what the def's frame says -/
structure SupE (prog : Program) (K : Frag) (C fI : Addr) (env : Env) (mg mb : Str → Option Value) (h : Heap) : Prop where
  kind : env.scope.kind = .function
  glob : env.globals = mainGlobals
  blt : env.builtins = builtinsNs
  ks : env.kindOf "super" = some .globalImplicit
  kc : env.kindOf "__class__" = some .free
  kself : env.kindOf "self" = some .local
  func : env.func = some fI
  fn : ∃ of fd ar, h.get? fI = some of ∧ of.data = .func fd ∧ (fd.params.posonlyargs ++ fd.params.args).head? = some ar ∧ ar.arg = ("self" : Str)
  code : ∃ cda oc vs file tf, env.code = .ref cda ∧ h.get? cda = some oc ∧ oc.data = .fields vs ∧ vs[2]? = some (.str file tf) ∧ ((prog.main.file : Str) == file) = true
  cell : ∃ cc, env.cells.lookup ("__class__" : Str) = some cc ∧ h.IsCell cc (some (.ref C))
  top : (prog.main.scope.names.lookup ("super" : Str)).isSome = false
  g : h.Ns mainGlobals mg
  b : h.Ns builtinsNs mb
  mg0 : mg "super" = none
  mb0 : mb "super" = bootBuiltins "super"
/-- what the class says -/
structure SupK (K : Frag) (C : Addr) : Prop where
  ox : OexC K C
  mro : mroIn K C (.ref C) = some true
  sup : ks_superIn K C C "__init__" = some (some (.builtin "ValueError.__init__"))
  sub : subIn K (.ref C) (.type "ValueError") = some true
theorem sup_stmt (Se : SupE prog K C fI env mg mb h) (T : SupK K C) (X : K.In h) (hop : Looks (model prog w) h (opaqueClassAbove (.ref C)) none) (he : h.get? e = some (exR C t1 none)) (hn : h.Ns env.locals m) (hm : m "self" = some (.ref e)) {body : List Stmt} {p0 p1 p2 p3 p4 p5 : Pos} {j : Nat} {x : Str} {Q : Flow → Shared → Prop}
    (hi : interactive env = false) (hev : SupEv p0 p1 p2 p3 p4 j x)
    (hq : ∀ h' t', (∀ b o, b ≠ e → h.get? b = some o → h'.get? b = some o) → (∃ t2, h'.get? e = some (exR C t2 none)) → Q .next ⟨h', g, d, t', os⟩) :
    _root_.PySem.wpAt (model prog w) A (.func body env) (exec (.Expr (supCall p0 p1 p2 p3 p4 j x) p5) env) Q E ⟨h, g, d, t, os⟩ := by
  obtain ⟨nm, qq, N, bs, bm, sn, sub, ab, col, dd, k0, k1, k2, k3, k5, hC, hbm⟩ := T.ox.cls
  have hcl : clsIn K C = some { name := nm, bases := bs, mro := .ref C :: bm, ns := N, qualname := qq, hasDict := true, slotNames := sn, subclasses := sub, abstract := ab, collection := col, hasDel := false } := by unfold clsIn; rw [hC] <;> rfl
  obtain ⟨of, fd, ar, hf, hfd, hp, har⟩ := Se.fn
  obtain ⟨cda, oc, vs, file, tf, hco, hcc, hoc, hvs, hfile⟩ := Se.code
  obtain ⟨cc, hcell, hcv⟩ := Se.cell
  obtain ⟨pl, hev⟩ := hev env
  refine ks_wpAt_Expr_any (ks_wpAt_MethodCall (pl := pl) ?_ hev) hi (by rfl)
  refine ks_wpAt_super_base (env := env) Se.ks Se.kc (by decide) Se.func hf hfd hp hco hcc hoc hvs hfile Se.top ?_
  refine ks_loadName_global Se.kind Se.ks (loadGlobal_builtin (env := env) (by rw [Se.glob]; exact Se.g) Se.mg0 (by rw [Se.blt]; exact Se.b) (Se.mb0.trans (show bootBuiltins "super" = some (.type "super") by decide +kernel)) ⟨rfl, ?_⟩)
  refine wpAny_loadName_free Se.kind Se.kc hcell hcv ?_
  rw [har]
  refine wpAny_loadName_local Se.kind Se.kself hn hm ?_
  refine ks_wpAny_isType_cls (X _ _ hC) rfl ⟨rfl, ?_⟩
  refine ks_wpAny_call_super (X _ _ hC) rfl he rfl (fun c z => by cases z) (looks_mroIn X T.mro) (fun h1 e1 k1 => ?_)
  -- the bound __init__
  have X1 : K.In h1 := X.keeps k1
  have he1 := k1 _ _ he
  have I1 : InstAt h1 e (exR C t1 none) C none := ⟨he1, rfl, rfl, trivial⟩
  have hI : Looks (model prog w) h1 (isInstance (.ref e) (.type "ValueError")) true := I1.type.andThen (looks_subIn X1 T.sub)
  have hmi := T.sup
  unfold ks_superIn at hmi
  rw [hcl] at hmi
  refine kxs_getMethod kxs_ValueError e1 (hop.keeps k1) (l₀ := .ref C :: bm) (fun A Q E s k q => wpAny_bind ((looks_clsIn X1 hcl) A _ E s k (wpAny_pure q))) rfl X1 hmi hI (ks_ne X1 I1 hcl) (by decide) ?_
  have hu : (h1.push (kxs_mw "ValueError.__init__" e)).get? h1.objs.size = some (kxs_mw "ValueError.__init__" e) := Heap.get?_push_at rfl rfl
  have k2' : ∀ b o, h1.get? b = some o → (h1.push (kxs_mw "ValueError.__init__" e)).get? b = some o := fun b o q => Heap.get?_push_of_some _ q
  refine kxs_callWith (i := "ValueError.__init__") (x := e) (by rfl) ?_
  show wpAny _ _ (evalArgs _ true ((false, eval (.Constant (.str x) j p3) env) :: []) []) _ _ _
  refine evalArgs_plain (spliced_cons (Constant_str (spliced_nil ⟨hu, ?_⟩)))
  refine wpAny_call (codeAny_of_tree ?_)
  show wpAny _ A.in1 (callAny (.ref h1.objs.size) ⟨[.str x _], []⟩) _ _ _
  simp only [callAny]
  refine wpAny_bind (wpAny_load hu ?_)
  simp only [kxs_mw, show (Value.type "method-wrapper" == Value.type "method" || Value.type "method-wrapper" == Value.type "builtin_function_or_method" || Value.type "method-wrapper" == Value.type "method-wrapper") = true by decide, if_true]
  refine KFB.if_so (by decide) ?_
  refine wpAny_bind (check_bound_init PySem.F.excBase_ValueError.toExcCallFacts ((X1.keeps k2') _ _ hC) (k2' _ _ he1) rfl ?_)
  refine wpAny_bind (wpAny_pure (wpAny_pure ?_))
  refine ⟨plainId_quiet PySem.F.excBase_ValueError.init.plain _, codeAny_builtin PySem.F.excBase_ValueError.initEntry ?_⟩
  exact exc_init_tree (cls := .ref C) (t0 := t1) (dv := none) (c2 := .none) (c3 := .none) (b4 := .bool false) (k2' _ _ he1) (by show 1 ≤ sizeLine; rw [sizeLine_eq]; omega)
    fun h' kk ee _ => hq h' _ (fun b o n q => kk b o n (k2' b o (k1 b o q))) ⟨_, ee⟩
end

/-! ### the __init__ as it stands -/
/-- its text -/
structure StB (params : Arguments) (body : List Stmt) (scope : Scope) (as : List Str) (fl : List (Str × Str)) : Prop where
  kind : scope.kind = .function
  co : scope.isCoroutine = false
  gen : scope.isGenerator = false
  cells : ∀ x ∈ scope.names, x.2 ≠ .cell
  ks : scope.names.lookup ("super" : Str) = some .globalImplicit
  kc : scope.names.lookup ("__class__" : Str) = some .free
  loc : ∀ x ∈ ("self" : Str) :: as, scope.names.lookup x = some .local ∧ (x == ("__debug__" : Str)) = false
  head : ∃ ar, (params.posonlyargs ++ params.args).head? = some ar ∧ ar.arg = ("self" : Str)
  nd : (("self" : Str) :: as).Nodup
  bind : ∀ (name qual : Str) (kV doc pm : Value) (an : Option Addr) (cdv ct : Value) (cc : Addr) (us : List Value), us.length = (("self" : Str) :: as).length → bindArgs (ksFn name qual params body scope .none kV doc pm an cdv ct cc) ⟨us, []⟩ = pure ((("self" : Str) :: as).zip us)
  arg : ∀ p ∈ fl, p.2 ∈ as
  bod : ∃ p0 p1 p2 p3 p4 p5 j x rest, body = .Expr (supCall p0 p1 p2 p3 p4 j x) p5 :: rest ∧ SupEv p0 p1 p2 p3 p4 j x ∧ Sto rest fl
/-- where it stands -/
def InF (prog : Program) (K : Frag) (C fI : Addr) (as : List Str) (fl : List (Str × Str)) : Prop := ∃ (oc : Value) (od : Option Addr) (osl : Array (Option Value)) (name qual : Str) (params : Arguments) (body : List Stmt) (scope : Scope) (kV doc pm : Value) (an : Option Addr) (cda : Addr) (ct : Value) (cc : Addr),
  K.lookup fI = some ⟨oc, od, .func (ksFn name qual params body scope .none kV doc pm an (.ref cda) ct cc), osl⟩ ∧ codeIn K (.ref cda) qual = true ∧ StB params body scope as fl ∧
  (∃ cl cld csl, K.lookup cc = some ⟨cl, cld, .cell (some (.ref C)), csl⟩) ∧ ∃ ccl cdd ccs vs file tf, K.lookup cda = some ⟨ccl, cdd, .fields vs, ccs⟩ ∧ vs[2]? = some (.str file tf) ∧ ((prog.main.file : Str) == file) = true
theorem zip_look : ∀ {ps : List Str} {us : List Value} {x : Str} {i : Nat} {u : Value}, ps.Nodup → ps.length = us.length → ps[i]? = some x → us[i]? = some u → (ps.zip us).reverse.lookup x = some u := by
  intro ps
  induction ps with
  | nil => intro us x i u _ _ h; simp at h
  | cons p ps ih =>
    intro us x i u nd hl hx hu
    cases us with
    | nil => simp at hl
    | cons v us =>
      rw [List.zip_cons_cons, List.reverse_cons, List.lookup_append]
      obtain ⟨n1, n2⟩ := List.nodup_cons.mp nd
      cases i with
      | zero =>
        have e1 : p = x := by simpa using hx
        have e2 : v = u := by simpa using hu
        subst e1 e2
        have hn : (ps.zip us).reverse.lookup p = none := by
          rw [List.lookup_eq_none_iff]
          intro q hq
          have hq' : q ∈ ps.zip us := by simpa using hq
          have : q.1 ∈ ps := (List.of_mem_zip (a := q.1) (b := q.2) hq').1
          simp only [beq_eq_false_iff_ne, ne_eq, bne_iff_ne]
          exact fun z => n1 (z ▸ this)
        rw [hn]
        simp
      | succ i =>
        rw [ih n2 (by simpa using hl) (by simpa using hx) (by simpa using hu)]
        rfl
section
variable {prog : Program} {w : World} {A : Around} {K : Frag} {e C fI t1 : Addr} {hp : Heap} {g : Array GenState} {d : Drawn} {t : Nat} {os : OsState} {mg mb : Str → Option Value}
/-- a parameter's value -/
def valOf (e : Addr) (as : List Str) (us : List Value) (a : Str) : Value := (((("self" : Str) :: as).zip (Value.ref e :: us)).reverse.lookup a).getD .none
theorem sup_code {as : List Str} {fl : List (Str × Str)} {us : List Value} {R : Result → Shared → Prop} (D : InF prog K C fI as fl) (T : SupK K C) (KI : ∀ a o, K.lookup a = some o → hp.get? a = some o ∧ a ≠ e) (hno : ∀ p ∈ fl, findIn K (.ref C) p.1 = some none)
    (hroom : A.depth < recursionLimit) (hlim : hp.NoLimit) (hg : hp.Ns mainGlobals mg) (hb : hp.Ns builtinsNs mb) (mg0 : mg "super" = none) (mb0 : mb "super" = bootBuiltins "super") (top : (prog.main.scope.names.lookup ("super" : Str)).isSome = false)
    (hop : Looks (model prog w) hp (opaqueClassAbove (.ref C)) none) (he : hp.get? e = some (exR C t1 none)) (hl : us.length = as.length) (h9 : fl.length ≤ 900)
    (hq : ∀ h' t' t2 L, (∀ b o, b ≠ e → hp.get? b = some o → h'.get? b = some o) → hp.objs.size ≤ L → ExD hp h' L e C t2 ((fl.map fun p => (p.1, valOf e as us p.2)).reverse) → R (.ok (.ret .none)) ⟨h', g, d, t', os⟩) :
    codeAny (model prog w) A (.call (.ref fI) ⟨.ref e :: us, []⟩) R ⟨hp, g, d, t, os⟩ := by
  obtain ⟨oc, od, osl, name, qual, params, body, scope, kV, doc, pm, an, cda, ct, cc, lk, hcd, S, ⟨cl, cld, csl, lc⟩, ccl, cdd, ccs, vs, file, tf, lcd, hvs, hfile⟩ := D
  obtain ⟨p0, p1, p2, p3, p4, p5, j, x, rest, rfl, hev, hst⟩ := S.bod
  obtain ⟨ar, har, hself⟩ := S.head
  have X : K.In hp := fun a o q => (KI a o q).1
  have hlen : (Value.ref e :: us).length = (("self" : Str) :: as).length := by simp [hl]
  refine ks_codeAny_call_defAt (fd := ksFn name qual params (.Expr (supCall p0 p1 p2 p3 p4 j x) p5 :: rest) scope .none kV doc pm an (.ref cda) ct cc) (body := .Expr (supCall p0 p1 p2 p3 p4 j x) p5 :: rest) (binds := (("self" : Str) :: as).zip (Value.ref e :: us))
    hroom (X _ _ lk) rfl hlim (codeRec_of X hcd) rfl (BindsTo.of_eq (S.bind name qual kV doc pm an (.ref cda) ct cc _ hlen)) S.cells (fun y hy => (S.loc y.1 (List.of_mem_zip (a := y.1) (b := y.2) hy).1).1) (fun h₀ hns hk₀ => ?_) S.co S.gen S.kind
  have X0 : K.In h₀ := X.keeps hk₀
  have hm0 : ((("self" : Str) :: as).zip (Value.ref e :: us)).reverse.lookup ("self" : Str) = some (.ref e) := zip_look (i := 0) S.nd hlen.symm rfl rfl
  have hLe : hp.objs.size ≠ e := Nat.ne_of_gt (Heap.lt_size he)
  have kO : ∀ y k, scope.names.lookup y = some k → (callEnv (ksFn name qual params (.Expr (supCall p0 p1 p2 p3 p4 j x) p5 :: rest) scope .none kV doc pm an (.ref cda) ct cc) hp.objs.size fI).kindOf y = some k := fun y k h => h
  refine ks_wpAt_execs_cons (sup_stmt (env := callEnv (ksFn name qual params (.Expr (supCall p0 p1 p2 p3 p4 j x) p5 :: rest) scope .none kV doc pm an (.ref cda) ct cc) hp.objs.size fI) (m := fun y => ((("self" : Str) :: as).zip (Value.ref e :: us)).reverse.lookup y) (mg := mg) (mb := mb)
    ⟨S.kind, rfl, rfl, kO _ _ S.ks, kO _ _ S.kc, kO _ _ (S.loc _ List.mem_cons_self).1, rfl, ⟨_, _, ar, X0 _ _ lk, rfl, har, hself⟩, ⟨cda, _, vs, file, tf, rfl, X0 _ _ lcd, rfl, hvs, hfile⟩, ⟨cc, by simp [callEnv, newEnv], ⟨_, X0 _ _ lc, rfl⟩⟩, top, ns_keep hg (fun o q => hk₀ _ _ q), ns_keep hb (fun o q => hk₀ _ _ q), mg0, mb0⟩
    T X0 (hop.keeps hk₀) (hk₀ _ _ he) hns hm0 (by have := S.kind; unfold interactive; rw [show (callEnv (ksFn name qual params (.Expr (supCall p0 p1 p2 p3 p4 j x) p5 :: rest) scope .none kV doc pm an (.ref cda) ct cc) hp.objs.size fI).scope.kind = .function from this]; rfl) hev fun h' t' k ⟨t2, e2⟩ => ?_)
  refine wpAt_of_wpAny ?_
  have ks : ∀ b o, b ≠ e → hp.get? b = some o → h'.get? b = some o := fun b o n q => k b o n (hk₀ b o q)
  refine sto_run (env := callEnv (ksFn name qual params (.Expr (supCall p0 p1 p2 p3 p4 j x) p5 :: rest) scope .none kV doc pm an (.ref cda) ct cc) hp.objs.size fI) (hp := hp) (K := K) (L := hp.objs.size) (m := fun y => ((("self" : Str) :: as).zip (Value.ref e :: us)).reverse.lookup y) (val := fun a => ((("self" : Str) :: as).zip (Value.ref e :: us)).reverse.lookup a |>.getD .none) T.ox KI S.kind rfl (kO _ _ (S.loc _ List.mem_cons_self).1) hm0 hst (fs := []) (t1 := t2) (fun p hp' => ?_)
    ⟨ks, ns_keep hns fun o q => k _ o hLe q, hLe, Nat.le_refl _⟩ (.inl ⟨rfl, e2⟩) (by simpa using h9) fun h2 t3 St Ex => ?_
  · have ha := S.arg p hp'
    refine ⟨hno p hp', kO _ _ (S.loc _ (List.mem_cons_of_mem _ ha)).1, (S.loc _ (List.mem_cons_of_mem _ ha)).2, ?_⟩
    obtain ⟨i, hi⟩ := List.getElem?_of_mem ha
    have hil := (List.getElem?_eq_some_iff.mp hi).1
    obtain ⟨u, hu⟩ : ∃ u, us[i]? = some u := ⟨_, List.getElem?_eq_getElem (by omega)⟩
    have := zip_look (ps := ("self" : Str) :: as) (us := Value.ref e :: us) (i := i + 1) S.nd hlen.symm (by simpa using hi) (by simpa using hu)
    rw [this]; rfl
  · refine hq h2 t3 t2 hp.objs.size St.keep (Nat.le_refl _) ?_
    simpa [valOf] using Ex
end

/-! ### C(e, ..) made, as the contexts have it -/
/-- no class is opaque -/
def StaD (base : Heap) : Prop := ∃ K' : Frag, K'.In base ∧ nsIn K' cStatics "thirdparty.any" = some none
def fldV (as : List Str) (fl : List (Str × Str)) (vs : List V) : List (Str × V) := (fl.map fun p => (p.1, vs.getD (as.idxOf p.2) .non)).reverse
theorem relO_fs {g1 : Str × Str → V} {g2 : Str × Str → Value} : ∀ {l : List (Str × Str)}, (∀ p ∈ l, RelV (g1 p) (g2 p)) → ∀ f, RelO ((l.map fun p => (p.1, g1 p)).lookup f) ((l.map fun p => (p.1, g2 p)).lookup f)
  | [], _, f => True.intro
  | p :: l, h, f => by
    have ih := relO_fs (l := l) (fun q hq => h q (List.mem_cons_of_mem _ hq)) f
    simp only [List.map_cons, List.lookup_cons]
    cases e : f == p.1 with
    | true => exact h p List.mem_cons_self
    | false => exact ih
theorem vals_at {vs : List V} {us : List Value} (r : Vals vs us) : ∀ {i : Nat}, i < us.length → RelV (vs.getD i .non) (us.getD i .none) := by
  induction r with
  | nil => intro i h; simp at h
  | cons a b ih =>
    intro i h
    cases i with
    | zero => exact a
    | succ i => simpa using ih (by simpa using h)
section
variable {X : Cx} {x : Str} {C fI : Addr} {k : Nat} {as : List Str} {fl : List (Str × Str)} {p pos : Pos} {a : Expr} {es : List Expr} {ta : TA}
theorem pmk_sup (T : SupK X.K C) (D : InF X.prog X.K C fI as fl) (iC : findIn X.K (.ref C) "__init__" = some (some (.ref fI))) (tI : typeIn X.K (.ref fI) = some (.type "function")) (hno : ∀ q ∈ fl, findIn X.K (.ref C) q.1 = some none) (h0 : fl ≠ []) (h9 : fl.length ≤ 900) (hs9 : as.length ≤ 1000)
    (top : (X.prog.main.scope.names.lookup ("super" : Str)).isSome = false) (mg0 : X.mg "super" = none) (hsta : StaD X.base) (hr : Room (k + 1) X.A) (hg : Gl X x) (hm : X.mg x = some (.ref C)) (ha : PA X (a :: es) ta)
    (hdb : (x == ("__debug__" : Str)) = false := by decide) (he : starEach (a :: es) X.env = (false, eval a X.env) :: starEach es X.env := by rfl) (hpl : (backTo pos (starEach es X.env)).any (·.1) = false := by rfl) :
    PMk X (.Call (.Name x p) (a :: es) [] pos) (fun σ H Q => ta σ H fun vs H1 => vs.length = as.length ∧ ∀ d, H1 d = none → Q (.ref C) (some d) (upd H1 d (.xd (fldV as fl vs)))) := by
  intro pins s σ H Q I h
  obtain ⟨nm, q, N, bs, bm, sn, sub, ab, col, dd, k0, k1, k2, k3, k5, hC, hbm⟩ := T.ox.cls
  refine wpAny_Call_Name_kw (ld_glob I hg hm ?_ hdb)
  refine callWith_K (h₀ := X.base) I.ok.mod.kin T.ox.kC (thn (ha.run pos pins s σ H _ I h) fun us s1 ⟨vs, H1, I1, r1, hz, q1⟩ => ⟨I1.kIn, ?_⟩) he hpl
  show wpAny _ _ (call (.ref C) us) _ _ _
  obtain ⟨hp, g, dr, tk, os⟩ := s1
  have hlu : us.length = as.length := by rw [← r1.length]; exact hz
  have hsz : hp.objs.size ≤ hp.objs.size + 1 := Nat.le_succ _
  have kk : ∀ b o, hp.get? b = some o → ((hp.push (kdv_tup us)).push (HandSPX.excO C hp.objs.size)).get? b = some o := fun b o e => Heap.get?_push_of_some _ (Heap.get?_push_of_some _ e)
  have hget : ((hp.push (kdv_tup us)).push (HandSPX.excO C hp.objs.size)).get? (hp.objs.size + 1) = some (HandSPX.excO C hp.objs.size) := by heap_get
  have I2 : Inv X pins σ (upd H1 (hp.objs.size + 1) (exo (hp.objs.size + 1) C none)) ⟨(hp.push (kdv_tup us)).push (HandSPX.excO C hp.objs.size), g, dr, tk, os⟩ :=
    I1.laid (t' := tk) (a := hp.objs.size + 1) (o := exo (hp.objs.size + 1) C none) (h' := (hp.push (kdv_tup us)).push (HandSPX.excO C hp.objs.size)) kk hsz (exo_ok hget)
  have hus : us.length ≤ sizeLine := by rw [hlu, sizeLine_eq]; omega
  obtain ⟨mb, hb1, hb2⟩ := I2.mod.blt
  obtain ⟨K', hK', hst⟩ := hsta
  generalize hH2 : (hp.push (kdv_tup us)).push (HandSPX.excO C hp.objs.size) = hp2 at I2 hget kk
  have hroom := (hr.make C us []).depth
  have hn : H1 (hp.objs.size + 1) = none := I1.hok.fresh hsz
  generalize hea : hp.objs.size + 1 = e at I2 hget hn hsz
  refine wpAny_call (HandSPX.call_own PySem.F.excBase_ValueError (fun Y => HandSPX.refsVE_contains Y bm hbm) (I1.kIn _ _ hC) (looks_findIn I1.kIn iC) (fun self => bind_fn I1.kIn self tI) hus ?_)
  rw [hH2]
  show codeAny _ _ (.call (.ref fI) ⟨.ref (hp.objs.size + 1) :: us, []⟩) _ _
  rw [hea]
  refine sup_code (prog := X.prog) (w := X.w) (K := X.K) (mg := X.mg) (mb := mb) (t1 := hp.objs.size) D T (fun b o z => ⟨I2.kIn b o z, fun y => ?_⟩) hno hroom (I2.mod.nolimit.keeps I2.bk) (I2.mod.glob.keeps I2.bk) (hb1.keeps I2.bk) mg0 (hb2 "super" (by decide)) top (looks_opaque (hK'.keeps I2.bk) hst) hget hlu h9 fun h2 t' t2 L ke _ Ex => ?_
  · have := Heap.lt_size (I1.kIn b o z)
    rw [y, ← hea] at this
    exact absurd this (Nat.not_lt.mpr (Nat.le_succ _))
  rcases Ex with ⟨z, _⟩ | ⟨dx, hx, hdx, hdne, _, hns⟩
  · simp at z; exact absurd z h0
  have hnd : (upd H1 e (exo e C none)) dx = none := I2.hok.fresh hdx
  have hd1 : H1 dx = none := by rw [upd_ne hdne] at hnd; exact hnd
  have hE : (upd H1 e (exo e C none)) e = some (exo e C none) := upd_same
  have nd : ∀ {b : Addr} {o : Obj}, hp2.get? b = some o → b ≠ dx := fun {b o} q => Nat.ne_of_lt (Nat.lt_of_lt_of_le (Heap.lt_size q) hdx)
  have na : ∀ {b : Addr}, (upd H1 e (exo e C none)) b = none → b ≠ e := fun {b} n z => by rw [z, hE] at n; cases n
  have rel : ∀ f, RelO ((fldV as fl vs).lookup f) (((fl.map fun p => (p.1, valOf e as us p.2)).reverse).lookup f) := fun f => by
    unfold fldV
    rw [← List.map_reverse, ← List.map_reverse]
    refine relO_fs (l := fl.reverse) (g1 := fun p => vs.getD (as.idxOf p.2) .non) (g2 := fun p => valOf e as us p.2) (fun q hq => ?_) f
    obtain ⟨_, _, _, _, _, _, _, _, _, _, _, _, _, _, _, _, _, S, _⟩ := D
    have hq' := S.arg q (by simpa using hq)
    have hi : as.idxOf q.2 < as.length := List.idxOf_lt_length_of_mem hq'
    have r := vals_at r1 (i := as.idxOf q.2) (by omega)
    have hv : us[as.idxOf q.2]? = some (us.getD (as.idxOf q.2) .none) := by
      rw [List.getD_eq_getElem?_getD, List.getElem?_eq_getElem (by omega)]; rfl
    have hz2 := zip_look (ps := ("self" : Str) :: as) (us := Value.ref e :: us) (i := as.idxOf q.2 + 1) (x := q.2) S.nd (by simp [hlu]) (by
      rw [List.getElem?_cons_succ, List.getElem?_eq_getElem hi]; congr 1; exact List.getElem_idxOf hi) (by simpa using hv)
    show RelV _ (valOf e as us q.2)
    unfold valOf
    rw [hz2]
    exact r
  have un : Un (frs X.stack) [] (upd H1 e (exo e C none)) (upd (upd (upd H1 e (exo e C none)) dx (exd dx (fldV as fl vs))) e (exo e C (some dx))) hp2 h2 := {
    keep := fun b o z n _ _ => ke b o (na n) z
    slot := fun b o z n _ _ => ⟨o.slots, ke b o (na n) z⟩
    free := fun b o z n _ => by rw [upd_ne (na n), upd_ne (nd z)]; exact n
    there := fun b o z _ => by
      by_cases y : b = e
      · exact ⟨_, by rw [y]; exact hx⟩
      · exact ⟨o, ke b o y z⟩
    tups := fun b xs z => by rw [upd_ne (at_ne hE z exo_tup), upd_ne (ne_of_none z hnd)]; exact z
    frzs := fun b o v z => by rw [upd_ne (at_ne hE z exo_frz), upd_ne (ne_of_none z hnd)]; exact z
    tbls := fun b ps z => ⟨#[], by rw [upd_ne (at_ne hE z exo_tbl), upd_ne (ne_of_none z hnd), z]; simp⟩ }
  have hok : HOk X.prog X.w (upd (upd (upd H1 e (exo e C none)) dx (exd dx (fldV as fl vs))) e (exo e C (some dx))) h2 := fun b o z => by
    by_cases y : b = e
    · subst y
      rw [upd_same] at z
      cases z
      exact exo_ok hx
    · rw [upd_ne y] at z
      by_cases y2 : b = dx
      · subst y2
        rw [upd_same] at z
        cases z
        exact exd_ok hns rel
      · rw [upd_ne y2] at z
        refine (I2.hok b o z).stay (fun c v hc q => ke c v ?_ q) (fun c hc => by rw [upd_ne (at_ne hE hc exo_own), upd_ne (ne_of_none hc hnd)]; exact hc) fun c xs hc => by rw [upd_ne (at_ne hE hc exo_tup), upd_ne (ne_of_none hc hnd)]; exact hc
        rcases hc with hc | hc
        · rw [hc]; exact y
        · exact at_ne hE hc exo_own
  refine ⟨rfl, mk_end (raises_own T.ox.exC T.ox.tyC) I1 (by rw [← hea]; exact Nat.le_succ _) kk un hok rfl I1.bare upd_same (by rw [upd_ne hdne]; exact upd_same) hd1 ?_⟩
  have eq : upd (del (upd (upd (upd H1 e (exo e C none)) dx (exd dx (fldV as fl vs))) e (exo e C (some dx))) e) dx (.xd (fldV as fl vs)) = upd H1 dx (.xd (fldV as fl vs)) := by
    funext b
    by_cases y : b = dx
    · rw [y, upd_same, upd_same]
    · rw [upd_ne y, upd_ne y]
      by_cases y2 : b = e
      · rw [y2, del_same, hn]
      · rw [del_ne y2, upd_ne y2, upd_ne y, upd_ne y2]
  rw [eq]
  exact q1 dx hd1
end
end Sh

set_option Elab.async false
set_option linter.all false
set_option maxRecDepth 100000
set_option maxHeartbeats 4000000
/-! ShJ: raise C(..) with arguments; of a caught exception: its fields, isinstance. -/
namespace Sh
open PySem PySem.Spec PyProof.Rows L2 PySem.W PySem.Calls

/-! ### isinstance of an exception with a dict -/
section
variable {prog : Program} {w : World} {A : Around} {E : Value → Shared → Prop} {s : Shared} {K : Frag} {x D : Addr} {ox : Obj} {od : Option Obj}
theorem found_cls (T : ExcC K D) : findObj K D od "__class__" = some (.bind (.builtin "getset_descriptor.__get__") (.builtin "object.__class__")) := by
  obtain ⟨cd, hc, _⟩ := any_some T.hd
  unfold findObj
  rw [hc, Option.bind_some, T.ha, Option.bind_some]
  simp [T.hn, T.ht]
theorem cls_read {Q : Option Value → Shared → Prop} (T : ExcC K D) (X : K.In s.heap) (I : InstAt s.heap x ox D od) (h : Q (some (.ref D)) { s with toks := s.toks + 1 }) : wpAny (model prog w) A (getAttr? (.ref x) "__class__") Q E s := by
  obtain ⟨hp, g, d, t, os⟩ := s
  have Ty := I.type (M := model prog w)
  have Ga := looks_findIn (M := model prog w) X T.hg
  have Gt := looks_findIn (M := model prog w) X T.hk
  have Fd := looks_find (M := model prog w) X I (found_cls (od := od) T)
  have Sb : Looks (model prog w) hp (isInstance (.ref x) (.type "BaseException")) true := Ty.andThen (looks_subIn X T.hs)
  have z1 : (Value.builtin "BaseException.__getattribute__" == Value.builtin "object.__getattribute__") = false := by decide +kernel
  have z2 : (onTheHeap (Value.ref D) && Value.builtin "BaseException.__getattribute__" == Value.builtin "object.__getattribute__") = false := by rw [z1]; rfl
  have z3 : (false && onTheHeap (Value.builtin "BaseException.__getattribute__")) = false := rfl
  unfold getAttr? getAttrBy? getAttrBy
  refine wpAny_bind (wpAny_mkText (wpAny_bind (wpAny_attempt (wpAny_holding (wpAny_bind (Ty.at (wpAny_bind (Ga.at ?_))))))))
  show wpAny _ _ (if (onTheHeap (Value.ref D) && Value.builtin "BaseException.__getattribute__" == Value.builtin "object.__getattribute__") = true then _ else _) _ _ _
  rw [z2, if_neg Bool.false_ne_true]
  unfold getAttrByItsOwn hookBefore
  refine wpAny_bind ?_
  rw [if_pos (show onTheHeap (Value.ref D) = true from rfl)]
  refine Gt.at (wpAny_bind (wpAny_attempt (wpAny_holding ?_)))
  unfold callGetattribute
  rw [z3, if_neg Bool.false_ne_true]
  unfold boundAndCalled
  rw [PySem.F.excAttr_ValueError.ga.bind (.ref x)]
  refine wpAny_bind (wpAny_pure ?_)
  show wpAny _ _ (call (.builtin "BaseException.__getattribute__") [.ref x, .str "__class__" t]) _ _ _
  refine wpAny_call (codeAny_call_builtin PySem.F.excAttr_ValueError.ga.plain PySem.F.entry_bexc_ga ?_)
  refine @check_slot (model prog w) _ _ ⟨hp, g, d, t + 1, os⟩ "BaseException.__getattribute__" "BaseException" "__getattribute__" (.ref x) [.str "__class__" t] [] _ (by decide +kernel) (by decide +kernel) Sb (PySem.F.args_bexc_ga (.ref x) (.str "__class__" t)) ?_
  unfold Builtin.«object.__getattribute__»
  refine wpAny_bind (wpAny_of_eq (a := ((Value.ref x : Value), [Value.str "__class__" t])) (by first | rfl | (simp only [slotArgs]; rfl)) ?_)
  refine wpAny_bind (wpAny_pure (wpAny_bind (Ty.at (wpAny_bind (Fd.at ?_)))))
  show wpAny _ _ (holding [Value.builtin "object.__class__"] (call (.builtin "getset_descriptor.__get__") [.builtin "object.__class__", .ref x, .ref D]) >>= ret) _ _ _
  refine wpAny_bind (wpAny_holding (wpAny_call (class_get (s := ⟨hp, g, d, t + 1, os⟩) (ox := ox) (od := od) X I T.hm ?_)))
  refine wpAny_pure ?_
  show wpAny _ _ (handedOut (.ref D)) _ _ _
  rw [handedOut_of (v := .ref D) rfl]
  first
    | exact wpAny_pure (wpAny_pure h)
    | exact wpAny_pure h
    | exact wpAny_pure (wpAny_bind (wpAny_pure (wpAny_pure h)))
theorem kitx_ex (T : ExcC K D) : KitX K (.ref x) (.ref D) (fun h => InstAt h x ox D od) where
  ty := fun _ _ _ I => I.type
  it := fun _ _ X _ => by
    obtain ⟨cd, hc, _⟩ := any_some T.hd
    unfold clsIn at hc
    split at hc
    · rename_i c' d' cd' sl' ho
      intro A' Q' E' s' k q
      unfold isType loadHead
      exact wpAny_bind (wpAny_loadPart (k _ _ (X _ _ ho)) (wpAny_pure q))
    · cases hc
  ne := fun h tp dd its n sl X htp => by
    obtain ⟨cd, hc, _⟩ := any_some T.hd
    refine Bool.eq_false_iff.mpr fun q => ?_
    have e : D = tp := Value.ref.inj (beq_iff_eq.mp q)
    subst e
    unfold clsIn at hc
    split at hc
    · rename_i ho
      cases (X _ _ ho).symm.trans htp
    · cases hc
  ca := fun X I k => cls_read T X I k
end
/-- isinstance(e, c), whatever dict e has -/
def rIsX (K : Frag) (D a : Addr) (d : Option Addr) : List V → Hp → VK → Prop := fun xs H Q => ∃ (c : V) (cv : Value) (b : Bool), xs = [.ref a, c] ∧ (∀ u, RelV c u → u = cv) ∧ kitOne K (.ref D) cv = some b ∧ (d = none ∨ ∃ dd us, d = some dd ∧ H dd = some (.xd us)) ∧ Q (.bl b) H
theorem call_isX {X : Cx} {a D : Addr} {d : Option Addr} {oe : Obj} {pn : List (Addr × Obj)} (C : ExcC X.K D) (hz : Zc (.ref D) d oe) (hf : ∃ vs, oe.data = .fields vs) : CallR (X.suite a ((a, oe) :: pn)) (.builtin "isinstance") (rIsX X.K D a d) := by
  intro pins s σ H xs us Q I r h
  obtain ⟨c, cv, b, rfl, hcv, e, hd, q⟩ := h
  cases r with
  | cons rx rr =>
    cases rr with
    | cons rt rr =>
      cases rr
      cases rx
      have ec := hcv _ rt
      subst ec
      obtain ⟨hget, _⟩ := I.pin (a, oe) (List.mem_append.mpr (.inl List.mem_cons_self))
      obtain ⟨vs, hv⟩ := hf
      have J : ∃ od, InstAt s.heap a oe D od := by
        obtain ⟨oc, od, oda, osl⟩ := oe
        obtain ⟨h1, h2⟩ := hz
        dsimp only at h1 h2 hv
        subst h1 h2 hv
        rcases hd with hd | ⟨dd, us, hd, hx⟩
        · subst hd; exact ⟨none, hget, rfl, rfl, trivial⟩
        · subst hd
          obtain ⟨mA, hns, hr⟩ := I.hok dd _ hx
          obtain ⟨o, ho, _⟩ := lookIn_ns hns
          exact ⟨some o, hget, rfl, rfl, ho⟩
      obtain ⟨od, J⟩ := J
      exact kia_one (kitx_ex C) I.kIn J e (fun z => nomatch z) fun tk => ⟨.bl b, H, I.kept (t' := tk) fun _ _ z => z, rfl, q⟩

/-! ### raise C(..) -/
def fldWs (ixs : List (Str × Nat)) (ws : List W) : List (Str × W) := (ixs.map fun p => (p.1, ws.getD p.2 .non)).reverse
def sRaiseN (c : Str) (n : Nat) (ixs : List (Str × Nat)) (es : List EM) : SM := fun e S => (evs es e S).thn e fun ws S1 => if ws.length = n then .exc ⟨c, fldWs ixs ws⟩ e S1 else .bad
/-- what such a class says, at its global name -/
def RxOk (P : Program) (K : Frag) (mg : Str → Option Value) (base : Heap) (c : Str) (n : Nat) (ixs : List (Str × Nat)) : Prop := ∃ (C fI : Addr) (as : List Str) (fl : List (Str × Str)), mg c = some (.ref C) ∧ SupK K C ∧ InF P K C fI as fl ∧ findIn K (.ref C) "__init__" = some (some (.ref fI)) ∧ typeIn K (.ref fI) = some (.type "function") ∧
  (∀ q ∈ fl, findIn K (.ref C) q.1 = some none) ∧ fl ≠ [] ∧ fl.length ≤ 900 ∧ as.length = n ∧ n ≤ 1000 ∧ ixs = fl.map (fun p => (p.1, as.idxOf p.2)) ∧ (P.main.scope.names.lookup ("super" : Str)).isSome = false ∧ mg "super" = none ∧ StaD base
section
variable {K : Frag} {mg : Str → Option Value} {H : Hp} {φ : Fi}
theorem vrs_getD {i : Nat} : ∀ {ws : List W} {vs : List V}, VRs K mg H φ ws vs → VR K mg H φ (ws.getD i .non) (vs.getD i .non) := by
  induction i with
  | zero =>
    intro ws vs r
    cases ws with
    | nil => simp only [VRs] at r; subst r; simp [VR]
    | cons w ws => simp only [VRs] at r; obtain ⟨v, r', rfl, r1, _⟩ := r; simpa using r1
  | succ i ih =>
    intro ws vs r
    cases ws with
    | nil => simp only [VRs] at r; subst r; simp [VR]
    | cons w ws => simp only [VRs] at r; obtain ⟨v, r', rfl, _, r2⟩ := r; simpa using ih r2
theorem vrs_map {α : Type} {g : α → W} {k : α → V} : ∀ {l : List α}, (∀ a ∈ l, VR K mg H φ (g a) (k a)) → VRs K mg H φ (l.map g) (l.map k)
  | [], _ => .nil
  | a :: l, h => .cons (h a List.mem_cons_self) (vrs_map fun b hb => h b (List.mem_cons_of_mem _ hb))
theorem fld_kvr {as : List Str} {fl : List (Str × Str)} {ws : List W} {vs : List V} (r : VRs K mg H φ ws vs) : KVR K mg H φ (fldWs (fl.map fun p => (p.1, as.idxOf p.2)) ws) (fldV as fl vs) := by
  have e1 : fldWs (fl.map fun p => (p.1, as.idxOf p.2)) ws = fl.reverse.map fun p => (p.1, ws.getD (as.idxOf p.2) .non) := by
    unfold fldWs
    rw [List.map_map, ← List.map_reverse]; rfl
  have e2 : fldV as fl vs = fl.reverse.map fun p => (p.1, vs.getD (as.idxOf p.2) .non) := by
    unfold fldV
    rw [← List.map_reverse]
  rw [e1, e2]
  refine ⟨by rw [List.map_map, List.map_map]; rfl, ?_⟩
  rw [List.map_map, List.map_map]
  exact vrs_map fun p _ => vrs_getD r
end
section
variable {X : Cx} {Wx : WX} {c : Str} {n k : Nat} {ixs : List (Str × Nat)} {p pos pos' : Pos} {a : Expr} {es : List Expr} {As : List EM}
theorem ms_raiseN (R : RxOk X.prog X.K X.mg X.base c n ixs) (hr : Room (k + 1) X.A) (hc : X.calm = true) (tk : Takes X Wx) (hg : Gl X c) (ha : MA X Wx (a :: es) (evs As)) (hdb : (c == ("__debug__" : Str)) = false := by decide)
    (he : starEach (a :: es) X.env = (false, eval a X.env) :: starEach es X.env := by rfl) (hpl : (backTo pos (starEach es X.env)).any (·.1) = false := by rfl) :
    MS X Wx (.Raise (some (.Call (.Name c p) (a :: es) [] pos)) none pos') (sRaiseN c n ixs As) := by
  obtain ⟨C, fI, as, fl, hm, T, D, iC, tI, hno, h0, h9, hn, hn9, rfl, top, mg0, hst⟩ := R
  exact leS (ps_raise hc tk (pmk_sup T D iC tI hno h0 h9 (by omega) top mg0 hst hr hg hm ha hdb he hpl)) fun D σ H ⟨e, S, φ, er, sr, q⟩ => ⟨e, S, φ, er, sr, PostS.thn er q fun ws S1 vs H1 φ1 x1 s1 r1 q1 => by
    split at q1
    · rename_i hl
      refine ⟨by rw [← r1.length, hl, hn], fun d hd => ?_⟩
      obtain ⟨x2, s2⟩ := s1.extra (o := .xd (fldV as fl vs)) hd
      refine q1 (.ref C) (some d) σ _ φ1 x2 ((er.mono x1).mono x2) s2 ⟨C, hm, rfl, .inr ⟨d, _, ?_, rfl, upd_same, fld_kvr (r1.mono x2)⟩⟩
      intro z
      have : fl = [] := by simpa [fldWs] using z
      exact h0 this
    · exact q1.elim⟩
end

/-! ### items, again: isinstance of any exception, fields, str(a bool) -/
/-- isinstance(e, c) -/
def fIsX (t : Str → Option Bool) : XF := fun x => (t x.cls).map W.bl
def fFld (f : Str) (cs : List Str) : XF := fun x => if x.cls ∈ cs then x.fs.lookup f else none
def fStrB (g : XF) : XF := fun x => match g x with
  | some (.bl b) => some (.str (if b then "True" else "False"))
  | _ => none
def FlOk (K : Frag) (mg : Str → Option Value) (f : Str) (cs : List Str) : Prop := ∀ c ∈ cs, ∃ D, mg c = some (.ref D) ∧ XfC K D ∧ findIn K (.ref D) f = some none
section
variable {X : Cx} {i j : Nat} {f g : XF} {e b : Expr} {es rest : List Expr} {pos p p2 : Pos}
theorem xj_is {x : Str} {cv : Value} {c : V} {ce : Expr} {t : Str → Option Bool} (h : IsOk X.K X.mg cv t) (hv : ∀ (a : Addr) (q : Addr × Obj) (pn : List (Addr × Obj)), PE (X.suite a (q :: pn)) (.Name x p) (tVar i)) (hcv : ∀ u, RelV c u → u = cv) (hc : ∀ (a : Addr) (q : Addr × Obj) (pn : List (Addr × Obj)), PE (X.suite a (q :: pn)) ce (fun _ H Q => Q c H))
    (hg : Gl X "isinstance") (hm : X.mg "isinstance" = none)
    (hs1 : starEach [Expr.Name x p, ce] X.env = (false, eval (.Name x p) X.env) :: starEach [ce] X.env := by rfl) (hs2 : starEach [ce] X.env = (false, eval ce X.env) :: starEach [] X.env := by rfl) (hpl : (backTo pos (starEach [ce] X.env)).any (·.1) = false := by rfl) :
    XI X i (fIsX t) (.Call (.Name "isinstance" p2) [.Name x p, ce] [] pos) := fun a oe cls d pn hz hd => ⟨fun pins s σ H Q I ⟨y, φ, w, xr, hi, e, q⟩ => by
  unfold fIsX at e
  simp only [Option.map_eq_some_iff] at e
  obtain ⟨k, e1, e2⟩ := e
  subst e2
  obtain ⟨D, m, XC, kt⟩ := h y.cls k e1
  obtain ⟨C, m', ec, xr'⟩ := xr
  rw [m] at m'; cases m'
  subst ec
  refine (pe_callB (call_isX (d := d) XC hz hd) hg hm boot_isinstance (pa_cons (hv a (a, oe) pn) (pa_cons (hc a (a, oe) pn) pa_nil hs2) hs1) (by decide) (by decide) hs1 hpl).run pins s σ H Q I ⟨_, hi, c, cv, k, rfl, hcv, kt, ?_, q _ rfl⟩
  rcases xr' with ⟨_, z⟩ | ⟨dd, us, _, z2, z3, _⟩
  · exact .inl z
  · exact .inr ⟨dd, us, z2, z3⟩⟩
theorem xj_isO {x y : Str} {t : Str → Option Bool} {yp : Pos} (h : IsOk X.K X.mg (clV X.mg y) t) (hv : ∀ (a : Addr) (q : Addr × Obj) (pn : List (Addr × Obj)), PE (X.suite a (q :: pn)) (.Name x p) (tVar i)) (hu : ∃ u, X.mg y = some (.ref u)) (hgy : Gl X y) (hg : Gl X "isinstance") (hm : X.mg "isinstance" = none)
    (hs1 : starEach [Expr.Name x p, Expr.Name y yp] X.env = (false, eval (.Name x p) X.env) :: starEach [Expr.Name y yp] X.env := by rfl) (hs2 : starEach [Expr.Name y yp] X.env = (false, eval (.Name y yp) X.env) :: starEach [] X.env := by rfl) (hpl : (backTo pos (starEach [Expr.Name y yp] X.env)).any (·.1) = false := by rfl) (hdb : (y == ("__debug__" : Str)) = false := by decide) :
    XI X i (fIsX t) (.Call (.Name "isinstance" p2) [.Name x p, .Name y yp] [] pos) := by
  obtain ⟨u, hu⟩ := hu
  have eu : clV X.mg y = .ref u := by unfold clV; rw [hu]; rfl
  exact xj_is (c := .ref u) h hv (fun w e => by rw [eu]; exact e) (fun a q pn => pe_glob (v := .ref u) hgy hu rfl hdb) hg hm hs1 hs2 hpl
theorem xj_isB {x y : Str} {n : String} {t : Str → Option Bool} {yp : Pos} (h : IsOk X.K X.mg (.type n) t) (hvx : ∀ (a : Addr) (q : Addr × Obj) (pn : List (Addr × Obj)), PE (X.suite a (q :: pn)) (.Name x p) (tVar i)) (hmy : X.mg y = none) (hv : bootBuiltins y = some (.type n)) (hgy : Gl X y) (hg : Gl X "isinstance") (hm : X.mg "isinstance" = none)
    (hs1 : starEach [Expr.Name x p, Expr.Name y yp] X.env = (false, eval (.Name x p) X.env) :: starEach [Expr.Name y yp] X.env := by rfl) (hs2 : starEach [Expr.Name y yp] X.env = (false, eval (.Name y yp) X.env) :: starEach [] X.env := by rfl) (hpl : (backTo pos (starEach [Expr.Name y yp] X.env)).any (·.1) = false := by rfl) (hn : y ≠ "__name__" := by decide) (hdb : (y == ("__debug__" : Str)) = false := by decide) :
    XI X i (fIsX t) (.Call (.Name "isinstance" p2) [.Name x p, .Name y yp] [] pos) :=
  xj_is (c := .ty n) h hvx (fun w e => e) (fun a q pn => pe_bltn (v := .ty n) hgy hmy hv rfl hn hdb) hg hm hs1 hs2 hpl
/-- e.f -/
theorem xj_fld {x n : Str} {cs : List Str} (h : FlOk X.K X.mg n cs) (hv : ∀ (a : Addr) (q : Addr × Obj) (pn : List (Addr × Obj)), PE (X.suite a (q :: pn)) (.Name x p) (tVar i)) (hb : attributeBase (.Name x p) n X.env (eval (.Name x p) X.env) = eval (.Name x p) X.env := by rfl) :
    XI X i (fFld n cs) (.Attribute (.Name x p) n pos) := fun a oe cls d pn hz hd => ⟨fun pins s σ H Q I ⟨y, φ, w, xr, hi, e, q⟩ => by
  unfold fFld at e
  split at e
  · rename_i hc
    obtain ⟨D, m, T, hno⟩ := h y.cls hc
    obtain ⟨C, m', ec, xr'⟩ := xr
    rw [m] at m'; cases m'
    rcases xr' with ⟨z, _⟩ | ⟨dd, us, _, z2, z3, kr⟩
    · rw [z] at e; cases e
    · obtain ⟨v, hl, r⟩ := fs_get kr e
      exact (pe_xf T hno hz hd (hv a (a, oe) pn) hb).run pins s σ H Q I ⟨_, hi, rfl, ec, dd, us, v, z2, z3, hl, q v r⟩
  · cases e⟩
/-- str(a bool) -/
theorem xj_str (h : XI X i g e) (hg : Gl X "str") (hm : X.mg "str" = none) (he : starEach [e] X.env = (false, eval e X.env) :: starEach [] X.env := by rfl) (hpl : (backTo pos (starEach [] X.env)).any (·.1) = false := by rfl) : XI X i (fStrB g) (.Call (.Name "str" p) [e] [] pos) := fun a oe cls d pn hz hd =>
  leE (pe_callTy call_strM hg hm boot_str (pa_cons (h a oe cls d pn hz hd) pa_nil he) (by decide) (by decide) he hpl) fun σ H Q ⟨x, φ, w, xr, hi, e, q⟩ => by
  unfold fStrB at e
  split at e
  · rename_i b e1
    cases e
    exact ⟨x, φ, _, xr, hi, e1, fun v r => .inr (.inr ⟨b, by cases (show v = .bl b from r); rfl, q _ rfl⟩)⟩
  · cases e
end
/-! ### from the head's facts -/
section
variable {K : Frag} {mg : Str → Option Value}
theorem fl_of {f : Str} {cs : List Str} (hm : ∀ c ∈ cs, mg c = some (.ref (He.ga K c))) (h : flB K f cs = true) : FlOk K mg f cs := fun c hc => by
  have z := List.all_eq_true.mp h c hc
  rw [Bool.and_eq_true, decide_eq_true_eq] at z
  exact ⟨_, hm c hc, xfB_ok z.1, z.2⟩
theorem oex_of {C : Addr} (h : oexB K C = true) : OexC K C := by
  unfold oexB at h
  obtain ⟨h0, h⟩ := Bool.and_eq_true_iff.mp h
  simp only [Bool.and_eq_true, decide_eq_true_eq] at h
  obtain ⟨h1, h2, h3, h4⟩ := h
  refine ⟨?_, h1, h2, h3, h4⟩
  split at h0
  · rename_i dd cd sl ho
    split at h0
    · rename_i C' bm k0 k1 k2 k3 n k5 hm hs
      simp only [Bool.and_eq_true, decide_eq_true_eq, Bool.not_eq_true'] at h0
      obtain ⟨rfl, rfl, hdel, hdct, hr⟩ := h0
      obtain ⟨nm, bs, mro, ns, qn, hd, sn, sub, ab, col, del⟩ := cd
      dsimp only at hm hdel hdct
      subst hm hdel hdct
      have hsl : sl = #[k0, k1, k2, k3, some (.builtin "ValueError.__new__"), k5] := by
        obtain ⟨l⟩ := sl
        simp only at hs
        rw [hs]
      subst hsl
      exact ⟨nm, qn, ns, bs, bm, sn, sub, ab, col, dd, k0, k1, k2, k3, k5, ho, hr⟩
    · cases h0
  · cases h0
theorem rx_of {P : Program} {base : Heap} {file : Str} {d : SupD} {as : List Str} {fl : List (Str × Str)} {n : Nat} {ixs : List (Str × Nat)} (hm : mg d.cls = some (.ref (He.ga K d.cls))) (e : supW K d.cls = d.val) (h1 : supB K file d = true) (h2 : supK K d.cls (fl.map (·.1)) = true) (S : StB d.params d.body d.scope as fl)
    (hP : P.main.file = file) (top : (P.main.scope.names.lookup ("super" : Str)).isSome = false) (mg0 : mg "super" = none) (hst : StaD base) (hn : as.length = n) (hi : ixs = fl.map fun p => (p.1, as.idxOf p.2)) (h0 : fl ≠ []) (h9 : fl.length ≤ 900) (hn9 : n ≤ 1000) : RxOk P K mg base d.cls n ixs := by
  unfold supK at h2
  simp only [Bool.and_eq_true, decide_eq_true_eq, List.all_eq_true] at h2
  obtain ⟨o1, o2, o3, o4, o5, o6, o7⟩ := h2
  refine ⟨_, He.fAd K (d.cls, some "__init__"), as, fl, hm, ⟨oex_of o1, o2, o3, o4⟩, ?_, o5, o6, fun q hq => o7 q.1 (List.mem_map_of_mem hq), h0, h9, hn, hn9, hi, top, mg0, hst⟩
  unfold supW at e
  unfold supB at h1
  cases q : K.lookup (He.fAd K (d.cls, some "__init__")) with
  | none => rw [q] at h1; cases h1
  | some o =>
    obtain ⟨oc, od, dt, osl⟩ := o
    rw [q] at h1 e
    cases dt with
    | func fd =>
      obtain ⟨n1, n2, n3, n4, n5, n6, n7, n8, n9, n10, n11, n12, n13, n14, n15⟩ := fd
      have e2 : (some (n1, n2, n3, n4, n5, n6, n7.map (·.1), n8, n15) : FnS) = (some (("__init__" : Str), d.qual, d.params, FuncBody.stmts d.body, d.scope, mainGlobals, [("__class__" : Str)], Value.none, builtinsNs) : FnS) := e
      simp only [Option.some.injEq, Prod.mk.injEq] at e2
      obtain ⟨g1, g2, g3, g4, g5, g6, g7, g8, g9⟩ := e2
      subst g1 g2 g3 g4 g5 g6 g8 g9
      obtain ⟨kA, kZ⟩ := Bool.and_eq_true_iff.mp h1
      obtain ⟨kB, kC⟩ := Bool.and_eq_true_iff.mp kZ
      clear kZ h1
      cases n7 with
      | nil => cases g7
      | cons c r =>
        cases r with
        | cons _ _ => simp at g7
        | nil =>
          obtain ⟨cn, cc⟩ := c
          have ecn : cn = ("__class__" : Str) := by simpa using g7
          subst ecn
          dsimp only at kA kB kC
          cases n13 with
          | ref cda =>
            refine ⟨oc, od, osl, "__init__", d.qual, d.params, d.body, d.scope, n9, n10, n11, n12, cda, n14, cc, q, kA, S, ?_, ?_⟩
            · have kB' : (match K.lookup cc with
                | some ⟨_, _, .cell (some (.ref D)), _⟩ => decide (D = He.ga K d.cls)
                | _ => false) = true := kB
              cases hq : K.lookup cc with
              | none => rw [hq] at kB'; cases kB'
              | some o =>
                obtain ⟨o1, o2, o3, o4⟩ := o
                rw [hq] at kB'
                cases o3 with
                | cell v =>
                  cases v with
                  | none => cases kB'
                  | some v =>
                    cases v with
                    | ref D => rw [show D = He.ga K d.cls from of_decide_eq_true kB']; exact ⟨_, _, _, rfl⟩
                    | _ => cases kB'
                | _ => cases kB'
            · have kC' : (match K.lookup cda with
                | some ⟨_, _, .fields vs, _⟩ => (match (vs[2]? : Option Value) with
                  | some (Value.str f _) => decide (file = f)
                  | _ => false)
                | _ => false) = true := kC
              cases hq : K.lookup cda with
              | none => rw [hq] at kC'; cases kC'
              | some o =>
                obtain ⟨o1, o2, o3, o4⟩ := o
                rw [hq] at kC'
                cases o3 with
                | fields vs =>
                  have kD : (match (vs[2]? : Option Value) with
                    | some (Value.str f _) => decide (file = f)
                    | _ => false) = true := kC'
                  cases hv : (vs[2]? : Option Value) with
                  | none => rw [hv] at kD; cases kD
                  | some v =>
                    rw [hv] at kD
                    cases v with
                    | str f tf => exact ⟨_, _, _, vs, f, tf, rfl, hv, by rw [hP, show file = f from of_decide_eq_true kD]; simp⟩
                    | _ => cases kD
                | _ => cases kC'
          | _ => cases kC
    | _ => cases h1
end
end Sh

set_option Elab.async false
set_option linter.all false
set_option maxRecDepth 100000
set_option maxHeartbeats 2000000
/-! ShZ: from the facts of the top to the promises at every depth; the law's end. -/
namespace Sh
open PySem PySem.Spec PyProof.Rows L2

/-- a def as it stands behind the top -/
abbrev UD (K : PySem.W.Frag) (x qual : Str) (st : Stmt) (f : Addr) : Prop := ∃ fd, FunD K x qual (defArgs st) (defBody st) (defScope st) [] [] f fd
/-- its arguments bind -/
def BI (x qual : Str) (st : Stmt) (ps : List Str) : Prop := ∀ (kV doc pm : Value) (an : Option Addr) (cdv ct : Value) (us : List Value), us.length = ps.length → bindArgs (PySem.W.fnOf x qual (defArgs st) (defBody st) (defScope st) .none kV doc pm an cdv ct) ⟨us, []⟩ = pure (ps.zip us)
/-- .. with keywords behind n values -/
def BK (x qual : Str) (st : Stmt) (ps ks : List Str) : Prop := ∀ (kV doc pm : Value) (an : Option Addr) (cdv ct : Value) (us ws : List Value), us.length + ks.length = ps.length → ws.length = ks.length → bindArgs (PySem.W.fnOf x qual (defArgs st) (defBody st) (defScope st) .none kV doc pm an cdv ct) ⟨us, ks.zip ws⟩ = pure (ps.zip (us ++ ws))
def UG (K : PySem.W.Frag) (mg : Str → Option Value) (x : Str) (st : Stmt) : Prop := ∃ f, mg x = some (.ref f) ∧ UD K x x st f
def UM (K : PySem.W.Frag) (mg : Str → Option Value) (c m qual : Str) (st : Stmt) : Prop := ∃ A f, mg c = some (.ref A) ∧ Cls K A ∧ Meth K A m f ∧ UD K m qual st f
def UK (K : PySem.W.Frag) (mg : Str → Option Value) (c qual : Str) (st : Stmt) : Prop := ∃ A f, mg c = some (.ref A) ∧ Mk K A f ∧ UD K "__init__" qual st f
section
variable {P : Program} {w : World} {K : PySem.W.Frag} {mg : Str → Option Value} {base : Heap} {x qual c m : Str} {st : Stmt} {f : Addr} {N ps ks : List Str} {k : Nat} {b : SM}
theorem ud_ok0 (h : UD K x qual st f) (bi : BI x qual st ps) : DefOk P w K mg base 0 f ps fun _ _ => .bad := by
  obtain ⟨fd, F⟩ := h
  exact def_ok0 (F.bindsN bi) F.kp
theorem ud_ok (h : UD K x qual st f) (bi : BI x qual st ps) (S : FnScope N ps (defScope st)) (hB : Bod P w K mg base k N qual (defScope st) (defBody st) b) : DefOk P w K mg base (k + 1) f ps (runDef ps.length N.length b) := by
  obtain ⟨fd, F⟩ := h
  exact def_ok F S (F.bindsN bi) hB
theorem ug_ok0 (h : UG K mg x st) (bi : BI x x st ps) : GlOk P w K mg base 0 x ps fun _ _ => .bad := let ⟨f, m, u⟩ := h; ⟨f, m, ud_ok0 u bi⟩
theorem ug_ok (h : UG K mg x st) (bi : BI x x st ps) (S : FnScope N ps (defScope st)) (hB : Bod P w K mg base k N x (defScope st) (defBody st) b) : GlOk P w K mg base (k + 1) x ps (runDef ps.length N.length b) := let ⟨f, m, u⟩ := h; ⟨f, m, ud_ok u bi S hB⟩
theorem ug_okO (h : UG K mg x st) (bi : BI x x st ps) (S : FnScope N ps (defScope st)) (hB : Bod P w K mg base k N x (defScope st) (defBody st) b) : GlOk P w K mg base (k + 1) x ps (runDefO ps.length N.length b) := let ⟨f, m, u⟩ := h; ⟨f, m, by obtain ⟨fd, F⟩ := u; exact def_okO F S (F.bindsN bi) hB⟩
theorem um_ok0 (h : UM K mg c m qual st) (bi : BI m qual st ps) : MtOk P w K mg base 0 c m ps fun _ _ => .bad := let ⟨A, f, h1, h2, h3, u⟩ := h; ⟨A, f, h1, h2, h3, ud_ok0 u bi⟩
theorem um_ok (h : UM K mg c m qual st) (bi : BI m qual st ps) (S : FnScope N ps (defScope st)) (hB : Bod P w K mg base k N qual (defScope st) (defBody st) b) : MtOk P w K mg base (k + 1) c m ps (runDef ps.length N.length b) := let ⟨A, f, h1, h2, h3, u⟩ := h; ⟨A, f, h1, h2, h3, ud_ok u bi S hB⟩
theorem uk_ok0 (h : UK K mg c qual st) (bi : BI "__init__" qual st ps) : MkOk P w K mg base 0 c ps fun _ _ => .bad := let ⟨A, f, h1, h2, u⟩ := h; ⟨A, f, h1, h2, ud_ok0 u bi⟩
theorem uk_ok (h : UK K mg c qual st) (bi : BI "__init__" qual st ps) (S : FnScope N ps (defScope st)) (hB : Bod P w K mg base k N qual (defScope st) (defBody st) b) : MkOk P w K mg base (k + 1) c ps (runDef ps.length N.length b) := let ⟨A, f, h1, h2, u⟩ := h; ⟨A, f, h1, h2, ud_ok u bi S hB⟩
theorem bk_to {fd : FuncData} (F : FunD K x qual (defArgs st) (defBody st) (defScope st) [] [] f fd) (bk : BK x qual st ps ks) (s : Shared) (us ws : List Value) (h1 : us.length + ws.length = ps.length) (h2 : ws.length = ks.length) : BindsTo s fd ⟨us, ks.zip ws⟩ (ps.zip (us ++ ws)) := by
  obtain ⟨oc, od, dV, kV, doc, pm, an, cdv, ct, osl, rfl, lk, hcd, hD, hK⟩ := F.ex
  rcases hD with ⟨_, rfl⟩ | ⟨e, _⟩
  · exact .of_eq (bk kV doc pm an cdv ct us ws (by rw [← h2]; exact h1) h2)
  · exact absurd rfl e
theorem uw_ok0 (h : UG K mg x st) (bk : BK x x st ps ks) : KwOk P w K mg base 0 x ps ks fun _ _ => .bad := by
  obtain ⟨f, m, fd, F⟩ := h
  exact ⟨f, fd, m, ⟨spM_len rfl, fun A outer s H args us vs Q E hr e0 b r ⟨ws, S, φ, _, _, _, q⟩ => q.elim⟩, F.kp, fun _ _ _ => rfl, bk_to F bk⟩
theorem uw_ok (h : UG K mg x st) (bk : BK x x st ps ks) (S : FnScope N ps (defScope st)) (hB : Bod P w K mg base k N x (defScope st) (defBody st) b) : KwOk P w K mg base (k + 1) x ps ks (runDef ps.length N.length b) := by
  obtain ⟨f, m, fd, F⟩ := h
  exact ⟨f, fd, m, F.ok S (spM_len rfl) (fun cdv A outer s H vs Q E hr h => ⟨_, hB f cdv A outer s H E hr, run_read h⟩), F.kp, ary_run, bk_to F bk⟩
/-- the law's promise -/
theorem sp_law {C : Cal} {H : Hp} {a : Addr} {ns : List Int} (hO : Only H) (hS : SqL K H a (ns.map V.int)) {S' : Store} (h : C [.scr ns] [] = .ok (.bl true) S') : spM K mg 1 C [.ref a] H (fun v _ => v = .bl true) fun _ _ _ => False := by
  have hF : SqF K H a (ns.map V.int) := by
    rcases hS with (h | ⟨o, h⟩) | h
    · rcases hO a with z | ⟨o, xs, z⟩
      · rw [z] at h; cases h
      · rw [z] at h; cases h
    · exact .inl ⟨o, h⟩
    · exact .inr h
  refine ⟨[.scr ns], [], ⟨[], []⟩, .one (by simp only [VR]; exact ⟨a, rfl, hF⟩), ⟨rfl, .nil, fun i ob p e => (by cases e), fun D hD => (by cases hD)⟩, rfl, ?_⟩
  rw [h]
  exact fun v H' φ' _ _ r => r
theorem cx_none {P : Program} {w : World} (H : Hp) (s : Shared) (e : Value) (s' : Shared) : L2.CX P w [] H s (fun _ _ _ => False) e s' → False := fun ⟨_, _, _, _, _, _, _, _, _, _, _, _, z⟩ => z
/-- at any world -/
def CXA (P : Program) : CXT := fun outer H s E u s' => ∃ w, L2.CX P w outer H s E u s'
theorem fnok_cx {fd : FuncData} {sp : Sp} (F : FnOk P w K mg base (L2.CX P w) k f fd ps sp) : FnOk P w K mg base (CXA P) k f fd ps sp := ⟨F.len, fun A outer s H args us vs Q E hr e0 b r h => codeAny_mono (F.run A outer s H args us vs Q E hr e0 b r h) fun r s' hq => by
  cases r with
  | error e => exact ⟨w, hq⟩
  | ok fl => cases fl <;> exact hq⟩
/-- the end: the law's def at depth k, its plain law -/
theorem law_end {l : PySem.W.OpenLaw} {q : Program} {loose : List Str} {XP : (Str → Option Value) → Heap → Prop} {YP : World → Heap → Prop} {d : DefRec} {n : Nat} {st : Stmt} {N : List Str} {b : SM}
    (hn : l.most = some n) (hn2 : n ≤ sizeLine) (hdf : d.params.defaults = []) (hr : Room (k + 1) callerA) (hd : d.name = x) (bi : BI x x st ["script"]) (S : FnScope N ["script"] (defScope st))
    (F : ∀ (w : World) (mg : Str → Option Value) (h : Heap), YP w h → h.Ns mainGlobals mg → ∃ K : PySem.W.Frag, K.In h ∧ UG K mg x st ∧ ∀ base : Heap, Bod l.prog w K mg base k N x (defScope st) (defBody st) b)
    (hlaw : ∀ ns : List Int, ns.length ≤ n → ∃ S', runDef 1 N.length b [.scr ns] [] = .ok (.bl true) S') : PySem.W.WalkO q loose XP YP l.row.toRowW d [] (fun f vs => PySem.call f vs) := by
  refine L2.walk_ofE (l := l) (n := n) (k := k + 1) (x := "script") (CX := CXA l.prog) hn hn2 hdf hr (fun w mg fa h Y G hmg => ?_) (fun H s e s' ⟨w, z⟩ => cx_none H s e s' z)
  obtain ⟨K, KX, ⟨f, hm, fd, FD⟩, hB⟩ := F w mg h Y G
  rw [hd, hm] at hmg
  cases hmg
  refine ⟨K, fd, spM K mg 1 (runDef 1 N.length b), KX, fun s u => ?_, fun H a ns hl hO hS => ?_, fun base _ _ => ?_⟩
  · exact FunD.bindsA (ps := ["script"]) FD bi s [u] rfl
  · obtain ⟨S', e⟩ := hlaw ns hl
    exact sp_law hO hS e
  · exact fnok_cx (FD.ok S (spM_len (ps := ["script"]) rfl) (fun cdv A outer s H vs Q E hr h => ⟨_, hB base _ cdv A outer s H E hr, run_read (ps := ["script"]) h⟩))
end
/-! ### flat values -/
def flW : W → He.Dv → Bool
  | .non, .non => true
  | .bl b, .bl c => b == c
  | .int i, .int j => decide (i = j)
  | .str x, .str y => decide (x = y)
  | _, _ => false
def flsW : List W → List He.Dv → Bool
  | [], [] => true
  | w :: ws, d :: ds => flW w d && flsW ws ds
  | _, _ => false
def flkW : List (Str × W) → List (Str × He.Dv) → Bool
  | [], [] => true
  | w :: ws, d :: ds => (decide (w.1 = d.1) && flW w.2 d.2) && flkW ws ds
  | _, _ => false
section
variable {K : PySem.W.Frag} {mg : Str → Option Value} {H : Hp} {φ : Fi}
theorem flW_ok {w : W} {d : He.Dv} (h : flW w d = true) : VR K mg H φ w (d.v K) := by
  cases w with
  | non => cases d <;> first | (cases h; done) | exact rfl
  | bl b =>
    cases d with
    | bl c => have e : b = c := eq_of_beq h; subst e; exact rfl
    | _ => cases h
  | int b =>
    cases d with
    | int c => have e : b = c := of_decide_eq_true h; subst e; exact rfl
    | _ => cases h
  | str b =>
    cases d with
    | str c => have e : b = c := of_decide_eq_true h; subst e; exact rfl
    | _ => cases h
  | _ => cases d <;> cases h
theorem flsW_ok : ∀ {ws : List W} {ds : List He.Dv}, flsW ws ds = true → VRs K mg H φ ws (ds.map (He.Dv.v K))
  | [], [], _ => .nil
  | [], _ :: _, h => by cases h
  | _ :: _, [], h => by cases h
  | w :: ws, d :: ds, h => by
    simp only [flsW, Bool.and_eq_true] at h
    exact .cons (flW_ok h.1) (flsW_ok h.2)
theorem vals_look {a : Addr} {z : Str} {wv : W} : ∀ {kvs : List (Str × W)} {ts : List (Str × He.Dv)}, He.valsB K a ts = true → flkW kvs ts = true → kvs.lookup z = some wv → ∃ u0 v0, PySem.W.nsIn K a z = some (some u0) ∧ RelV v0 u0 ∧ ∀ H φ, VR K mg H φ wv v0
  | [], ts, _, _, hz => by cases hz
  | _ :: _, [], _, h, _ => by cases h
  | w :: ws, d :: ds, hv, h, hz => by
    simp only [flkW, Bool.and_eq_true, decide_eq_true_eq] at h
    obtain ⟨⟨h1, h2⟩, h3⟩ := h
    obtain ⟨k, v⟩ := w
    simp only [List.lookup_cons] at hz
    cases e : z == k with
    | true =>
      rw [e] at hz
      cases hz
      have ek : z = k := eq_of_beq e
      obtain ⟨u, e1, r⟩ := He.valsB_ok hv (q := d) List.mem_cons_self
      refine ⟨u, d.2.v K, ?_, r, fun H φ => flW_ok h2⟩
      rw [ek, show k = d.1 from h1]
      exact e1
    | false =>
      rw [e] at hz
      refine vals_look (ts := ds) ?_ h3 hz
      unfold He.valsB at hv ⊢
      rw [List.all_cons, Bool.and_eq_true] at hv
      exact hv.2
end
end Sh

set_option Elab.async false
set_option linter.all false
set_option maxRecDepth 100000
set_option maxHeartbeats 2000000
/-! ShQ: repr of what is nested, where no repr is under way. -/
namespace Sh
open PySem PySem.Spec PyProof.Rows L2
def keyD : Key → PyData
  | .inl i => .int i
  | .inr x => .str x
mutual
/-- a value as plain data -/
def pyW : W → Option PyData
  | .non => some .none
  | .bl b => some (.bool b)
  | .int i => some (.int i)
  | .str x => some (.str x)
  | .tup ws => (pyWs ws).map .tuple
  | .lst ws => (pyWs ws).map .list
  | .dic ks ws => (pyWs ws).map fun ds => .dict ((ks.map keyD).zip ds)
  | .ref _ => none
  | .ty _ => none
  | .glo _ => none
  | .scr _ => none
  | .siz _ => none
def pyWs : List W → Option (List PyData)
  | [] => some []
  | w :: ws => match pyW w, pyWs ws with
    | some d, some ds => some (d :: ds)
    | _, _ => none
end
def reprOk (d : PyData) : Bool := d.showable && (decide (d.depth ≤ 60) && decide (d.shown.length ≤ sizeLine))
def reprN : PN := fun ws S => match ws with
  | [w] => match pyW w with
    | some d => if reprOk d = true then some (.str d.shown, S) else none
    | none => none
  | _ => none
mutual
inductive RdV (K : PySem.W.Frag) (H : Hp) : V → PyData → Prop
  | non : RdV K H .non .none
  | bl (b : Bool) : RdV K H (.bl b) (.bool b)
  | int (i : Int) : RdV K H (.int i) (.int i)
  | str (x : Str) : RdV K H (.str x) (.str x)
  | tup {p : Addr} {vs : List V} {ds : List PyData} : SqT K H p vs → RdVs K H vs ds → RdV K H (.ref p) (.tuple ds)
  | lst {p : Addr} {vs : List V} {ds : List PyData} : SqL K H p vs → RdVs K H vs ds → RdV K H (.ref p) (.list ds)
  | dic {p : Addr} {us : List (Key × V)} {ds : List PyData} : H p = some (.dK us) → RdVs K H (us.map (·.2)) ds → RdV K H (.ref p) (.dict ((us.map fun q => keyD q.1).zip ds))
inductive RdVs (K : PySem.W.Frag) (H : Hp) : List V → List PyData → Prop
  | nil : RdVs K H [] []
  | cons {v : V} {vs : List V} {d : PyData} {ds : List PyData} : RdV K H v d → RdVs K H vs ds → RdVs K H (v :: vs) (d :: ds)
end
section
variable {K : PySem.W.Frag} {mg : Str → Option Value} {H : Hp} {φ : Fi}
mutual
theorem rdv_of : ∀ {w : W} {v : V} {d : PyData}, VR K mg H φ w v → pyW w = some d → RdV K H v d
  | .non, v, d, r, e => by cases e; cases (show v = .non from r); exact .non
  | .bl b, v, d, r, e => by cases e; cases (show v = .bl b from r); exact .bl b
  | .int i, v, d, r, e => by cases e; cases (show v = .int i from r); exact .int i
  | .str x, v, d, r, e => by cases e; cases (show v = .str x from r); exact .str x
  | .tup ws, v, d, r, e => by
    obtain ⟨p, vs, rfl, t, rr⟩ := (show ∃ p vs, v = .ref p ∧ SqU K H p vs ∧ VRs K mg H φ ws vs from r)
    simp only [pyW] at e
    cases h : pyWs ws with
    | none => rw [h] at e; cases e
    | some ds =>
      rw [h] at e
      cases e
      refine .tup ?_ (rdvs_of rr h)
      rcases t with t | t
      · exact .inl (.inl t)
      · exact .inr t
  | .lst ws, v, d, r, e => by
    obtain ⟨p, vs, rfl, t, rr⟩ := (show ∃ p vs, v = .ref p ∧ SqW H φ p vs ∧ VRs K mg H φ ws vs from r)
    simp only [pyW] at e
    cases h : pyWs ws with
    | none => rw [h] at e; cases e
    | some ds =>
      rw [h] at e
      cases e
      exact .lst (.inl (.inl t.2)) (rdvs_of rr h)
  | .dic ks ws, v, d, r, e => by
    obtain ⟨p, us, rfl, _, t, hk, rr⟩ := (show ∃ p us, v = .ref p ∧ Out φ p ∧ H p = some (.dK us) ∧ us.map (·.1) = ks ∧ VRs K mg H φ ws (us.map (·.2)) from r)
    simp only [pyW] at e
    cases h : pyWs ws with
    | none => rw [h] at e; cases e
    | some ds =>
      rw [h] at e
      cases e
      have e2 : ks.map keyD = us.map fun q => keyD q.1 := by rw [← hk, List.map_map]; rfl
      show RdV K H _ (.dict ((ks.map keyD).zip ds))
      rw [e2]
      exact .dic t (rdvs_of rr h)
  | .ref _, _, _, _, e => by cases e
  | .ty _, _, _, _, e => by cases e
  | .glo _, _, _, _, e => by cases e
  | .scr _, _, _, _, e => by cases e
  | .siz _, _, _, _, e => by cases e
theorem rdvs_of : ∀ {ws : List W} {vs : List V} {ds : List PyData}, VRs K mg H φ ws vs → pyWs ws = some ds → RdVs K H vs ds
  | [], vs, ds, r, e => by
    cases e
    cases (show vs = [] from r)
    exact .nil
  | w :: ws, vs, ds, r, e => by
    obtain ⟨v, r2, rfl, h1, h2⟩ := (show ∃ v r, vs = v :: r ∧ VR K mg H φ w v ∧ VRs K mg H φ ws r from r)
    simp only [pyWs] at e
    cases h : pyW w with
    | none => rw [h] at e; cases e
    | some d =>
      cases h' : pyWs ws with
      | none => rw [h, h'] at e; cases e
      | some ds' =>
        rw [h, h'] at e
        cases e
        exact .cons (rdv_of h1 h) (rdvs_of h2 h')
end
end
def rReprM (K : PySem.W.Frag) : List V → Hp → VK → Prop := fun xs H Q => ∃ v d, xs = [v] ∧ RdV K H v d ∧ reprOk d = true ∧ Q (.str d.shown) H
theorem snd_repr {K : PySem.W.Frag} {mg : Str → Option Value} : SndN K mg reprN (rReprM K) := fun ws S u S' H φ vs Q s r h q => by
  unfold reprN at h
  split at h
  · rename_i w
    obtain ⟨v, rfl, r1⟩ := one r
    split at h
    · rename_i d hd
      split at h
      · rename_i hok
        cases h
        exact ⟨v, d, rfl, rdv_of r1 hd, hok, same_end s (by simp [VR]) q⟩
      · cases h
    · cases h
  · cases h
section
variable {X : Cx} {pins : List (Addr × Obj)} {σ : L2.St} {H : Hp} {s : Shared}
theorem kvs_reads {P : Program} {w : World} {h : Heap} : ∀ {us : List (Key × V)} {vs : List (Key × Value)} {es : List DictEntry}, KV us vs → Pairs (mixKind P w) es vs → ReadsAll h (es.map (·.key)) (us.map fun q => keyD q.1) [] ∧ Vals (us.map (·.2)) (es.map (·.val))
  | [], _, es, kv, p => by
    cases kv
    cases p
    exact ⟨.nil, .nil⟩
  | u :: us, _, es, kv, p => by
    cases kv with
    | cons k1 k2 =>
      cases p with
      | cons p1 p2 p3 =>
        rename_i e0 es0
        obtain ⟨i1, i2⟩ := kvs_reads (h := h) k2 p3
        obtain ⟨e1, r1⟩ := k1
        refine ⟨?_, .cons (show L2.RelV u.2 (DictEntry.val _) from p2.symm ▸ r1) i2⟩
        have key : ∃ as : List Addr, as = [] ∧ Reads h e0.key (keyD u.1) as := by
          rcases keyIs_shape p1 with ⟨i, t, e2, e3⟩ | ⟨x, t, e2, e3⟩
          · rw [e1, e2]
            refine ⟨[], rfl, ?_⟩
            rw [e3]; exact .int i t
          · rw [e1, e2]
            refine ⟨[], rfl, ?_⟩
            rw [e3]; exact .str x t
        obtain ⟨as, rfl, rk⟩ := key
        exact .cons rk i1
theorem rdvs_len {K : PySem.W.Frag} {H : Hp} : ∀ {vs : List V} {ds : List PyData}, RdVs K H vs ds → ds.length = vs.length
  | _, _, .nil => rfl
  | _, _, .cons _ h => by simp [rdvs_len h]
mutual
theorem reads_of (I : Inv X pins σ H s) (hm : SysD X.base) : ∀ {v : V} {u : Value} {d : PyData}, RdV X.K H v d → RelV v u → ∃ as, Reads s.heap u d as ∧ sysModules ∉ as
  | _, u, _, .non, r => by cases r; exact ⟨[], .none, by simp⟩
  | _, u, _, .bl b, r => by cases r; exact ⟨[], .bool b, by simp⟩
  | _, u, _, .int i, r => by obtain ⟨t, rfl⟩ := r; exact ⟨[], .int i t, by simp⟩
  | _, u, _, .str x, r => by obtain ⟨t, rfl⟩ := r; exact ⟨[], .str x t, by simp⟩
  | _, u, _, .tup (p := p) t rr, r => by
    cases r
    obtain ⟨its, rv, ⟨o, ho, hcl, n, hd⟩, _⟩ := I.tuple t
    obtain ⟨as, h1, h2⟩ := readss_of I hm rr rv
    exact ⟨as, .tuple ho hcl hd (by simpa using h1), h2⟩
  | _, u, _, .lst (p := p) t rr, r => by
    cases r
    obtain ⟨its, rv, ⟨o, n, ho, hcl, _, hd⟩, _⟩ := I.list t
    obtain ⟨as, h1, h2⟩ := readss_of I hm rr rv
    refine ⟨p :: as, .list ho hcl hd (by simpa using h1), ?_⟩
    simp only [List.mem_cons, not_or]
    refine ⟨fun e => ?_, h2⟩
    obtain ⟨o', e1, e2⟩ := hm
    have e3 := I.bk _ _ e1
    rw [e] at e3
    rw [ho] at e3
    cases e3
    rw [hcl] at e2
    exact absurd e2 (by decide)
  | _, u, _, .dic (p := p) (us := us) (ds := ds) t rr, r => by
    cases r
    obtain ⟨_, hsm, vs, kv, o, es, ep, ho, hx, hd, _, hp, _⟩ := dk_rd I.hok (Rd.of t)
    obtain ⟨k1, k2⟩ := kvs_reads (h := s.heap) kv hp
    obtain ⟨bs, b1, b2⟩ := readss_of I hm rr k2
    have hl := rdvs_len rr
    rw [List.length_map] at hl
    have z1 : (((us.map fun q => keyD q.1).zip ds).map (·.1)) = us.map fun q => keyD q.1 := List.map_fst_zip (by rw [List.length_map]; omega)
    have z2 : (((us.map fun q => keyD q.1).zip ds).map (·.2)) = ds := List.map_snd_zip (by rw [List.length_map]; omega)
    refine ⟨p :: [] ++ bs, .dict ho hx.1 hd (by rw [z1]; exact k1) (by rw [z2]; exact b1), ?_⟩
    simp only [List.cons_append, List.nil_append, List.mem_cons, not_or]
    exact ⟨fun e => by rw [e] at hsm; simp at hsm, b2⟩
theorem readss_of (I : Inv X pins σ H s) (hm : SysD X.base) : ∀ {vs : List V} {us : List Value} {ds : List PyData}, RdVs X.K H vs ds → Vals vs us → ∃ as, ReadsAll s.heap us ds as ∧ sysModules ∉ as
  | _, us, _, .nil, r => by cases r; exact ⟨[], .nil, by simp⟩
  | _, us, _, .cons h1 h2, r => by
    cases r with
    | cons r1 r2 =>
      obtain ⟨as, a1, a2⟩ := reads_of I hm h1 r1
      obtain ⟨bs, b1, b2⟩ := readss_of I hm h2 r2
      exact ⟨as ++ bs, .cons a1 b1, fun h => (List.mem_append.mp h).elim a2 b2⟩
end
theorem call_repr (hg : X.A.guards = some []) (hu : X.A.units + 70 < cLine) (hm : SysD X.base) : CallR X (.builtin "repr") (rReprM X.K) := by
  intro pins s σ H xs us Q I r h
  obtain ⟨v, d, rfl, hr, hok, q⟩ := h
  obtain ⟨u, rfl, ru⟩ := vals1 r
  obtain ⟨as, R, hn⟩ := reads_of I hm hr ru
  simp only [reprOk, Bool.and_eq_true, decide_eq_true_eq] at hok
  obtain ⟨h1, h2, h3⟩ := hok
  cases hr with
  | non => cases ru; exact PySem.P.repr_of_none ⟨.str _, H, I.tok _, ⟨_, rfl⟩, q⟩
  | bl b => cases ru; exact PySem.P.repr_of_bool ⟨.str _, H, I.tok _, ⟨_, rfl⟩, q⟩
  | int i => obtain ⟨t, rfl⟩ := ru; exact PySem.P.repr_of_int (by simpa [PyData.showable] using h1) ⟨.str _, H, I.tok _, ⟨_, rfl⟩, q⟩
  | str x => obtain ⟨t, rfl⟩ := ru; exact PySem.P.repr_of_str ⟨.str _, H, I.tok _, ⟨_, rfl⟩, q⟩ h3
  | tup t rr => cases ru; exact repr_of_reads' R h1 (fun _ => hn) hg (by omega) (fun b o e => e) (fun h' u tk hk => ⟨.str _, H, I.kept hk, ⟨u, rfl⟩, q⟩) h3
  | lst t rr => cases ru; exact repr_of_reads' R h1 (fun _ => hn) hg (by omega) (fun b o e => e) (fun h' u tk hk => ⟨.str _, H, I.kept hk, ⟨u, rfl⟩, q⟩) h3
  | dic t rr => cases ru; exact repr_of_reads' R h1 (fun _ => hn) hg (by omega) (fun b o e => e) (fun h' u tk hk => ⟨.str _, H, I.kept hk, ⟨u, rfl⟩, q⟩) h3
end
end Sh

set_option Elab.async false
set_option linter.all false
set_option maxRecDepth 100000
set_option maxHeartbeats 2000000
/-! ShY: the law's own def, called from where nothing is under way (the rest of ShZ's law_end, for laws that say repr). -/
namespace Sh
open PySem PySem.Spec PyProof.Rows L2
/-- nothing of the script's heap is tracked but the script -/
structure Bare (P : Program) (w : World) (K : PySem.W.Frag) (a : Addr) (ns : List Int) (h : Heap) (H : Hp) : Prop where
  only : Only H
  sq : SqL K H a (ns.map V.int)
  ok : HOk P w H h
  at_ : ∀ b, H b ≠ none → b = a
  out : H a ≠ none → K.lookup a = none
theorem bare_ex {P : Program} {w : World} {K : PySem.W.Frag} {a : Addr} {vs : List Value} {ns : List Int} {h : Heap} (hin : K.In h) (ha : h.get? a = some { cls := .type "list", data := .seq vs.toArray }) (hi : IntsAre vs ns) (hl : ns.length ≤ sizeLine) :
    ∃ H, Bare P w K a ns h H := by
  have hv := vals_ints hi
  have hz : ns.length = vs.length := by have := hi.length; omega
  cases e : K.lookup a with
  | some o =>
    have eo := hin a o e
    rw [ha] at eo
    cases eo
    exact ⟨fun _ => none, fun _ => .inl rfl, .inr ⟨_, vs.toArray, _, e, rfl, rfl, rfl, by rw [List.size_toArray, ← hz]; exact hl, by simpa using hv⟩, (fun _ _ z => by cases z), (fun _ z => absurd rfl z), fun z => absurd rfl z⟩
  | none =>
    refine ⟨fun b => if b = a then some (.frz { cls := .type "list", data := .seq vs.toArray } (.lst (ns.map V.int))) else none, fun b => ?_, .inl (.inr ⟨_, if_pos rfl⟩), fun b u z => ?_, fun b z => ?_, fun _ => e⟩
    · by_cases q : b = a
      · exact .inr ⟨_, _, if_pos q⟩
      · exact .inl (if_neg q)
    · by_cases q : b = a
      · rw [if_pos q] at z
        cases z
        rw [q]
        exact ⟨ha, by rw [List.length_map]; exact hl, vs, _, hv, ha⟩
      · rw [if_neg q] at z
        cases z
    · by_cases q : b = a
      · exact q
      · exact absurd (if_neg q) z
section
variable {P : Program} {w : World} {K : PySem.W.Frag} {mg mb : Str → Option Value} {fa a : Addr} {k : Nat} {s1 : Shared} {vs : List Value} {ns : List Int} {H : Hp}
theorem bare_none (B : Bare P w K a ns s1.heap H) (ha : s1.heap.get? a = some { cls := .type "list", data := .seq vs.toArray }) {b : Addr} {o : Obj} {es : Array DictEntry} {ep : Nat} (e : s1.heap.get? b = some o) (d : o.data = .dict es ep) : H b = none := by
  cases q : H b with
  | none => rfl
  | some u =>
    have e2 : b = a := B.at_ b (by rw [q]; exact Option.some_ne_none _)
    rw [e2, ha] at e
    cases e
    cases (show Data.seq vs.toArray _ = Data.dict es ep from d)
theorem bare_ns (B : Bare P w K a ns s1.heap H) (ha : s1.heap.get? a = some { cls := .type "list", data := .seq vs.toArray }) {b : Addr} {m : Str → Option Value} : s1.heap.Ns b m → (hidT s1.heap H).Ns b m := by
  rintro ⟨o, es, ep, e, d, r⟩
  exact ⟨o, es, ep, hidT_get e (bare_none B ha e d), d, r⟩
theorem bare_in (B : Bare P w K a ns s1.heap H) (hin : K.In s1.heap) : K.In (hidT s1.heap H) := by
  intro b o e
  refine hidT_get (hin b o e) ?_
  cases q : H b with
  | none => rfl
  | some u =>
    have hn : H b ≠ none := by rw [q]; exact Option.some_ne_none _
    have e2 := B.at_ b hn
    subst e2
    rw [B.out hn] at e
    cases e
theorem bare_env (B : Bare P w K a ns s1.heap H) (ha : s1.heap.get? a = some { cls := .type "list", data := .seq vs.toArray }) (hin : K.In s1.heap) (hns : s1.heap.Ns mainGlobals mg) (hb : s1.heap.Ns builtinsNs mb) (hbb : ∀ x : Str, x ≠ "__name__" → mb x = bootBuiltins x) (hlim : s1.heap.NoLimit) (hg : s1.gens = #[]) :
    Env0 P w K mg (hidT s1.heap H) callerA [] s1 H where
  frames := rfl
  mod := ⟨bare_in B hin, bare_ns B ha hns, ⟨mb, bare_ns B ha hb, hbb⟩, by obtain ⟨mc, n1, n2⟩ := hlim; exact ⟨mc, bare_ns B ha n1, n2⟩⟩
  bs := fun _ _ e => of_hidT e
  bsz := Nat.le_of_eq (hidT_size _ _)
  funs := trivial
  frf := fun b hb => by cases (show b ∈ ([] : List Addr) from hb)
  hok := B.ok
  bare := .of_eq hg
/-- what the call leaves -/
theorem bare_end (B : Bare P w K a ns s1.heap H) {s' : Shared} {u : Value} (h : CE [] P w H s1 (fun v _ => v = .bl true) u s') : u = .bool true ∧ OldK s1.heap s'.heap ∧ s'.os = s1.os ∧ AllBare s'.gens := by
  obtain ⟨v, H', hos, hba, un, hok', r, q⟩ := h
  have q2 : v = .bl true := q
  subst q2
  refine ⟨r, OldK.of_keep fun b o e => ?_, hos, hba⟩
  cases q : H b with
  | none => exact un.keep b o e q (fun z => by cases (show b ∈ ([] : List Addr) from z)) (by simp)
  | some x =>
    rcases B.only b with z | ⟨ob, xs, z⟩
    · rw [q] at z
      cases z
    · obtain ⟨e1, _⟩ := B.ok b _ z
      obtain ⟨e2, _⟩ := hok' b _ (un.frzs b ob _ z)
      rw [e] at e1
      cases e1
      exact e2
/-- a def's promise, from this place alone -/
def BodC (P : Program) (w : World) (K : PySem.W.Frag) (mg : Str → Option Value) (base : Heap) (N : List Str) (qual : Str) (scope : Scope) (body : List Stmt) (b : SM) : Prop := ∀ (f : Addr) (cd : Value) (s : Shared) (H : Hp) (E : XK),
  MSs (dX P w K mg base N qual scope f cd callerA [] s H E) (fun cls d _ H => E cls d H) body b
theorem def_run {x qual : Str} {params : Arguments} {body : List Stmt} {scope : Scope} {N ps : List Str} {base : Heap} {b : SM} {f : Addr} {fd : FuncData} {us : List Value} {xs : List V} {Q : VK} {args : Args}
    (F : FunD K x qual params body scope [] [] f fd) (S : FnScope N ps scope) (hr : Room (k + 1) callerA) (e0 : Env0 P w K mg base callerA [] s1 H) (hb : BindsTo s1 fd args (ps.zip us)) (r : Vals xs us) (hB : BodC P w K mg base N qual scope body b)
    (h : spM K mg ps.length (runDef ps.length N.length b) xs H Q fun _ _ _ => False) :
    codeAny (model P w) callerA (.call (.ref f) args) (CR (L2.CX P w) [] P w H s1 Q fun _ _ _ => False) s1 := by
  obtain ⟨oc, od, dV, kV, doc, pm, an, cdv, ct, osl, rfl, lk, hcd, _, _⟩ := F.ex
  have hlen := spM_len (ps := ps) rfl _ _ _ _ h
  have hin : K.In s1.heap := e0.mod.kin.keeps fun c o e => (e0.bs c o e).1
  have hlim : s1.heap.NoLimit := e0.mod.nolimit.keeps fun c o e => (e0.bs c o e).1
  have hkd : ∀ y ∈ ps.zip us, scope.names.lookup y.1 = some .local ∨ (scope.names.lookup y.1 = some .cell ∧ ((cellsFrom (s1.heap.objs.size + 1) scope.names []).lookup y.1).isSome = true) := by
    rintro ⟨n, v⟩ hy
    rcases S.par n (List.of_mem_zip hy).1 with q | q
    · exact .inl q
    · exact .inr ⟨q, PySem.W.cellsFrom_some _ _ _ (.inl q)⟩
  refine codeAny_call_function hr.depth (hin _ _ lk) rfl S.co S.gen rfl (PySem.W.codeRec_of hin hcd) (hb _ _ _ _ ?_)
  refine wpAny_newFunctionEnv_cells S.kind hkd ?_
  rintro env rfl s2 x2
  refine ⟨hlim.keeps x2.toInCall.keep, codeAny_func ?_⟩
  have hm := hB f cdv s1 H (fun _ _ _ => False)
  have J : Inv (dX P w K mg base N qual scope f cdv callerA [] s1 H fun _ _ _ => False) [] (L2.start N xs) H s2 := inv_start S hr.hd e0 hlen r x2
  refine wpAny_mono (hm.run [] s2 (L2.start N xs) H _ J (run_read h)) (fun fl s' hs => ?_) fun e s' hs => hs
  · cases fl with
    | ret u =>
      obtain ⟨v, τ, H2, J2, rv, q⟩ := hs
      exact ⟨v, H2, J2.os, J2.bare, J2.base, J2.hok, rv, q⟩
    | next =>
      obtain ⟨τ, H2, J2, q⟩ := hs
      exact ⟨.non, H2, J2.os, J2.bare, J2.base, J2.hok, rfl, q⟩
    | brk => obtain ⟨_, _, _, q⟩ := hs; exact q.elim
    | cont => obtain ⟨_, _, _, q⟩ := hs; exact q.elim
/-- the end, for a law whose own def says repr: the same as law_end, with the def's body asked at callerA alone -/
theorem law_endC {l : PySem.W.OpenLaw} {q : Program} {loose : List Str} {XP : (Str → Option Value) → Heap → Prop} {YP : World → Heap → Prop} {d : DefRec} {n k : Nat} {x : Str} {st : Stmt} {N : List Str} {b : SM}
    (hn : l.most = some n) (hn2 : n ≤ sizeLine) (hdf : d.params.defaults = []) (hr : Room (k + 1) callerA) (hd : d.name = x) (bi : BI x x st ["script"]) (S : FnScope N ["script"] (defScope st))
    (F : ∀ (w : World) (mg : Str → Option Value) (h : Heap), YP w h → h.Ns mainGlobals mg → SysD h ∧ ∃ K : PySem.W.Frag, K.In h ∧ UG K mg x st ∧ ∀ base : Heap, SysD base → BodC l.prog w K mg base N x (defScope st) (defBody st) b)
    (hlaw : ∀ ns : List Int, ns.length ≤ n → ∃ S', runDef 1 N.length b [.scr ns] [] = .ok (.bl true) S') : PySem.W.WalkO q loose XP YP l.row.toRowW d [] (fun f vs => PySem.call f vs) := by
  refine Att.attach_call hn hdf fun w s₀ s1 mg mb fa o pm cd doc a vs ns G Y ho hdd hcd hmg hobj hints hlen hg => ?_
  obtain ⟨hsys, K, KX, ⟨f, hm, fd, FD⟩, hB⟩ := F w mg _ Y G.T.g
  rw [hd, hm] at hmg
  cases hmg
  obtain ⟨H, B⟩ := bare_ex (P := l.prog) (w := w) (ns := ns) KX hobj hints (Nat.le_trans hlen hn2)
  have e0 := bare_env (P := l.prog) (w := w) B hobj KX G.T.g G.T.b G.T.builtins G.T.nolimit hg
  have hbase : SysD (hidT s1.heap H) := by
    obtain ⟨o, e1, e2⟩ := hsys
    refine ⟨o, hidT_get e1 ?_, e2⟩
    cases q : H sysModules with
    | none => rfl
    | some u =>
      have e3 := B.at_ sysModules (by rw [q]; exact Option.some_ne_none _)
      rw [e3, hobj] at e1
      cases e1
      have e4 : Value.type "list" = Value.type "dict" := e2
      injection e4 with e5
      exact absurd e5 (by decide)
  obtain ⟨S', e⟩ := hlaw ns hlen
  have hsp : spM K mg 1 (runDef 1 N.length b) [.ref a] H (fun v _ => v = .bl true) fun _ _ _ => False := sp_law B.only B.sq e
  refine codeAny_mono (def_run (ps := ["script"]) FD S hr e0 (FunD.bindsA (ps := ["script"]) FD bi s1 [.ref a] rfl) (show Vals [V.ref a] [Value.ref a] from .cons rfl .nil) (hB _ hbase) hsp) fun r s' h => ?_
  cases r with
  | error e => exact (cx_none (P := l.prog) (w := w) H s1 e s' h).elim
  | ok fl =>
    cases fl with
    | ret u =>
      obtain ⟨rfl, h2⟩ := bare_end B h
      exact ⟨rfl, h2⟩
    | next => exact (show False from h).elim
    | brk => exact (show False from h).elim
    | cont => exact (show False from h).elim
end
end Sh

set_option Elab.async false
set_option linter.all false
set_option maxRecDepth 100000
set_option maxHeartbeats 4000000
/-! ShK: C(k = v) of an own class; isinstance of instances and of own classes. -/
namespace Sh
open PySem PySem.Spec PyProof.Rows L2

/-! ### C(k = v, ..), keywords alone -/
def KmOk (P : Program) (w : World) (K : PySem.W.Frag) (mg : Str → Option Value) (base : Heap) (k : Nat) (c : Str) (ps ks : List Str) (C : Cal) : Prop := ∃ A f fd, mg c = some (.ref A) ∧ Mk K A f ∧ FnOk P w K mg base (L2.CX P w) k f fd ps (spM K mg ps.length C) ∧ PySem.W.keepIn K (.ref f) = true ∧ Ary ps.length C ∧
  ∀ (s : Shared) (u : Value) (ws : List Value), 1 + ws.length = ps.length → ws.length = ks.length → BindsTo s fd ⟨[u], ks.zip ws⟩ (ps.zip (u :: ws))
def eMakeK (c : Str) (C : Cal) (ks : List EM) (n : Nat) : EM := fun e S => (evs ks e S).bind fun ys S1 => if ys.length = n then (C (.ref S1.length :: ys) (S1 ++ [.ins c []])).bind fun w S2 => (match w with
  | .non => .ok (.ref S1.length) S2
  | _ => .bad) else .bad
section
variable {X : Cx} {Wx : WX} {k : Nat} {C : Cal} {ps : List Str} {c : Str} {p pos : Pos}
theorem run_mkK {CX : CXT} {M f : Addr} {fd : FuncData} {sp : Sp} {E : XK} {ks : List Str} {pins : List (Addr × Obj)} {σ : L2.St} {H : Hp} {s : Shared} {Q : VK} {ws : List Value} {zs : List V} (Mk' : Mk X.K M f) (F : FnOk X.prog X.w X.K X.mg X.base CX k f fd ps sp) (hr : Room (k + 1) X.A)
    (hb : ∀ (s : Shared) (u : Value) (ws : List Value), 1 + ws.length = ps.length → ws.length = ks.length → BindsTo s fd ⟨[u], ks.zip ws⟩ (ps.zip (u :: ws))) (hx : PassesAt CX X σ E) (I : Inv X pins σ H s) (r : Vals zs ws) (hl : ws.length = ks.length)
    (h : ∀ x dx, H x = none → H dx = none → dx ≠ x → sp (.ref x :: zs) (upd (upd H dx (.own x)) x (.ins M dx [])) (fun v H2 => v = .non ∧ Q (.ref x) H2) E) :
    wpAny (model X.prog X.w) X.A (call (.ref M) [] (ks.zip ws)) (EP X pins σ Q) X.xe s := by
  have hq := h (s.heap.objs.size + 1) s.heap.objs.size (I.hok.fresh (Nat.le_succ _)) (I.hok.fresh (Nat.le_refl _)) (Nat.ne_of_lt (Nat.lt_succ_self _))
  have I2 := Inv.made (C := M) I
  have r2 : Vals (V.ref (s.heap.objs.size + 1) :: zs) (Value.ref (s.heap.objs.size + 1) :: ws) := .cons rfl r
  have hz := F.len _ _ _ _ hq
  have hw : 1 + ws.length = ps.length := by
    rw [← hz, ← r.length]; simp [Nat.add_comm]
  refine wpAny_call (make_map (f := f) I.kIn Mk'.makes Mk'.init (beq_iff_eq.mp Mk'.fn) (codeAny_mono (F.run _ X.stack _ _ ⟨[Value.ref (s.heap.objs.size + 1)], ks.zip ws⟩ (Value.ref (s.heap.objs.size + 1) :: ws) _ _ E (hr.make M [] (ks.zip ws))
    (I2.env0.make M [] (ks.zip ws)) (hb _ _ ws hw hl) r2 hq) fun r s' hq' => ?_))
  cases r with
  | error e => exact hx pins _ _ e s' I2 hq'
  | ok fl =>
    cases fl with
    | ret u =>
      obtain ⟨v, H', I3, rv, ev, q3⟩ := I2.after hq'
      subst ev
      exact ⟨rv, ⟨V.ref (s.heap.objs.size + 1), H', I3, rfl, q3⟩⟩
    | next => exact False.elim hq'
    | brk => exact False.elim hq'
    | cont => exact False.elim hq'
theorem m_makeK0 {kws : List Keyword} {ks : List Str} {Ks : List EM} (F : KmOk X.prog X.w X.K X.mg X.base k c ps ks C) (hr : Room (k + 1) X.A) (tk : Takes X Wx) (hg : Gl X c) (hkw : MKw X Wx kws (evs Ks))
    (hall : (backToKw pos (keywordEach kws X.env)).all (·.1.isSome) = true := by rfl) (hks : (backToKw pos (keywordEach kws X.env)).filterMap (·.1) = ks := by rfl) (hdb : (c == ("__debug__" : Str)) = false := by decide)
    (hpl : ((backTo pos (starEach [] X.env)).any (·.1) || (backToKw pos (keywordEach kws X.env)).any (·.1.isNone)) = false := by rfl) : ME X Wx (.Call (.Name c p) [] kws pos) (eMakeK c C Ks ks.length) := by
  obtain ⟨M, f, fd, hm, M', F, hk, hC, hb⟩ := F
  refine ⟨fun pins s σ H Q I ⟨e, S, φ, er, sr, q⟩ => ?_⟩
  have h1 : rA X.K X.mg Wx (evs Ks) σ H (fun zs H1 => zs.length = ks.length ∧ ∀ x dx, H1 x = none → H1 dx = none → dx ≠ x → spM X.K X.mg ps.length C (.ref x :: zs) (upd (upd H1 dx (.own x)) x (.ins M dx [])) (fun v H2 => v = .non ∧ Q (.ref x) H2) (WE Wx σ)) := ⟨e, S, φ, er, sr, PostR.bind q fun ws S1 vs H1 φ1 x1 s1 r1 q1 => by
    split at q1
    · rename_i hl
      exact ⟨by rw [← r1.length]; exact hl, make_post hC hm r1 s1 q1⟩
    · exact q1.elim⟩
  refine wpAny_Call_Name_kw (ld_glob I hg hm ?_ hdb)
  refine PySem.W.callWith_KW0 (h₀ := X.base) I.ok.mod.kin M'.kp hall ?_ hpl
  refine thn (hkw.run pos pins s σ H _ I h1) fun ws s2 ⟨zs, H2, I2, rz, l, q2⟩ => ⟨I2.kIn, ?_⟩
  rw [hks]
  exact run_mkK M' F hr hb (passAt tk σ) I2 rz (by rw [← rz.length]; exact l) q2
end
/-! ### isinstance -/
/-- tables: instances of the module's classes (by name) asked for built-in types, for classes; values of built-in types asked for classes -/
structure ITab where
  t : Str → String → Option Bool
  g : Str → Str → Option Bool
  b : String → Str → Option Bool
def clsW (x : W) (S : Store) : Option Str := match x with
  | .ref a => match S[a]? with
    | some (.ins k _) => some k
    | _ => none
  | _ => none
def anyC (f : String → Option Bool) : List W → Option Bool
  | [] => some false
  | .ty n :: r => match f n, anyC f r with
    | some a, some b => some (a || b)
    | _, _ => none
  | _ => none
def isiM (it : ITab) : PN := fun ws S => match isiN ws S with
  | some r => some r
  | none => match ws with
    | [x, .ty n] => match clsW x S with
      | some k => (it.t k n).map fun b => (.bl b, S)
      | none => none
    | [x, .tup cs] => match clsW x S with
      | some k => if cs.isEmpty = true then none else (anyC (it.t k) cs).map fun b => (.bl b, S)
      | none => none
    | [x, .glo y] => match clsW x S with
      | some k => (it.g k y).map fun b => (.bl b, S)
      | none => match tyName x S with
        | some a => (it.b a y).map fun b => (.bl b, S)
        | none => none
    | _ => none
structure ICls (K : PySem.W.Frag) (C : Addr) : Prop where
  cl : Cls K C
  ha : PySem.W.findIn K (.ref C) "__class__" = some (some (.builtin "object.__class__"))
  hn : PySem.W.specialIn K (.builtin "object.__class__") "__get__" = some (some (.builtin "getset_descriptor.__get__"))
  ht : PySem.W.takesIn K (.builtin "object.__class__") = some true
  hm : PySem.W.mroIn K C (.type "object") = some true
structure IOk (K : PySem.W.Frag) (mg : Str → Option Value) (it : ITab) : Prop where
  t : ∀ k n b, it.t k n = some b → ∃ C, mg k = some (.ref C) ∧ ICls K C ∧ PySem.W.kitOne K (.ref C) (.type n) = some b
  g : ∀ k y b, it.g k y = some b → ∃ C D, mg k = some (.ref C) ∧ ICls K C ∧ mg y = some (.ref D) ∧ PySem.W.kitOne K (.ref C) (.ref D) = some b
  b : ∀ a y b, it.b a y = some b → ∃ D, mg y = some (.ref D) ∧ PySem.W.kitOne K (.type a) (.ref D) = some b
section
variable {K : PySem.W.Frag} {mg : Str → Option Value} {H : Hp} {φ : Fi} {S : Store}
theorem cls_ty {x : W} {v : V} {k : Str} {C : Addr} (s : SR K mg H φ S) (r : VR K mg H φ x v) (h : clsW x S = some k) (hm : mg k = some (.ref C)) (I : ICls K C) : TyX K H v (.ref C) := by
  cases x with
  | ref a =>
    simp only [clsW] at h
    split at h
    · rename_i k' fs e0
      cases h
      obtain ⟨p, rfl, t⟩ := vref r
      obtain ⟨C', dx, us, m', hp, kr⟩ := s.at_ a _ p e0 t
      rw [hm] at m'; cases m'
      exact .base (.ins hp I.cl I.ha I.hn I.ht I.hm)
    · cases h
  | _ => cases h
theorem any_ok {T : Value} {f : String → Option Bool} (hf : ∀ n b, f n = some b → PySem.W.kitOne K T (.type n) = some b) : ∀ {cs : List W} {vs : List V} {b : Bool}, VRs K mg H φ cs vs → anyC f cs = some b → ∃ us : List Value, Paired ClsV vs us ∧ PySem.W.kitAny K T us = some b
  | [], vs, b, r, h => by
    simp only [VRs] at r
    subst r
    cases h
    exact ⟨[], .nil, kitAny_nil⟩
  | c :: cs, vs, b, r, h => by
    simp only [VRs] at r
    obtain ⟨v, r', rfl, r1, r2⟩ := r
    cases c with
    | ty n =>
      simp only [anyC] at h
      cases (show v = .ty n from r1)
      cases e : f n with
      | none => rw [e] at h; cases h
      | some k =>
        cases e2 : anyC f cs with
        | none => rw [e, e2] at h; cases h
        | some k2 =>
          rw [e, e2] at h
          have h := Option.some.inj h
          obtain ⟨us, p, q⟩ := any_ok hf r2 e2
          refine ⟨_, .cons (.ty n) p, kitAny_cons (hf n _ e) (fun z => ?_) fun z => ?_⟩
          · rw [q, ← h, z]; rfl
          · rw [← h, z]; rfl
    | _ => cases h
theorem snd_isiM {it : ITab} (T : IOk K mg it) : SndN K mg (isiM it) (rIsiM K) := fun ws S u S' H φ vs Q s r h q => by
  unfold isiM at h
  split at h
  · rename_i z e
    cases h
    exact snd_isi ws S u S' H φ vs Q s r e q
  · split at h
    · rename_i x n _
      obtain ⟨v, c, rfl, r1, r2⟩ := two r
      split at h
      · rename_i k e
        simp only [Option.map_eq_some_iff] at h
        obtain ⟨b, h1, h2⟩ := h
        cases h2
        obtain ⟨C, hm, I, kt⟩ := T.t _ _ _ h1
        cases (show c = .ty n from r2)
        exact .inl ⟨v, .ty n, _, _, b, rfl, .ty n, cls_ty s r1 e hm I, kt, same_end s (by simp [VR]) q⟩
      · cases h
    · rename_i x cs _
      obtain ⟨v, c, rfl, r1, r2⟩ := two r
      split at h
      · rename_i k e
        split at h
        · cases h
        rename_i hne
        simp only [Option.map_eq_some_iff] at h
        obtain ⟨b, h1, h2⟩ := h
        cases h2
        obtain ⟨p, vs, rfl, t, rr⟩ := vtup r2
        cases cs with
        | nil => exact absurd rfl hne
        | cons c0 cs =>
        have hC : ∃ C, mg k = some (.ref C) ∧ ICls K C := by
          cases c0 with
          | ty n =>
            simp only [anyC] at h1
            cases e3 : it.t k n with
            | none => rw [e3] at h1; cases h1
            | some z => obtain ⟨C, a, b, _⟩ := T.t _ _ _ e3; exact ⟨C, a, b⟩
          | _ => cases h1
        obtain ⟨C, hm, I⟩ := hC
        obtain ⟨us, pp, kk⟩ := any_ok (T := .ref C) (fun n b e3 => by
          obtain ⟨C', hm', I', kt⟩ := T.t _ _ _ e3
          rw [hm] at hm'; cases hm'
          exact kt) rr h1
        have ty := cls_ty s r1 e hm I
        rcases t with t | ⟨o, its, n, g1, g2, g3, g4, g5⟩
        · exact .inr (.inl ⟨v, p, vs, .ref C, us, _, rfl, t, pp, ty, kk, same_end s (by simp [VR]) q⟩)
        · have e3 := ClsV.all pp g5
          obtain ⟨oc, od, dt, sl⟩ := o
          simp only at g2 g3
          subst g2 g3
          refine .inr (.inr ⟨v, p, od, us, n, sl, .ref C, _, rfl, ?_, ty, kk, same_end s (by simp [VR]) q⟩)
          rw [g1, ← e3]
      · cases h
    · rename_i x y _
      obtain ⟨v, c, rfl, r1, r2⟩ := two r
      simp only [VR] at r2
      obtain ⟨D, hD, rfl⟩ := r2
      split at h
      · rename_i k e
        simp only [Option.map_eq_some_iff] at h
        obtain ⟨b, h1, h2⟩ := h
        cases h2
        obtain ⟨C, D', hm, I, hD', kt⟩ := T.g _ _ _ h1
        rw [hD] at hD'; cases hD'
        exact .inl ⟨v, .ref D, _, _, b, rfl, .own D, cls_ty s r1 e hm I, kt, same_end s (by simp [VR]) q⟩
      · split at h
        · rename_i a e
          simp only [Option.map_eq_some_iff] at h
          obtain ⟨b, h1, h2⟩ := h
          cases h2
          obtain ⟨D', hD', kt⟩ := T.b _ _ _ h1
          rw [hD] at hD'; cases hD'
          exact .inl ⟨v, .ref D, .type a, _, b, rfl, .own D, ty_ok s r1 e, kt, same_end s (by simp [VR]) q⟩
        · cases h
    · cases h
theorem look3_in {α β : Type} [BEq α] [BEq β] [LawfulBEq α] [LawfulBEq β] {l : List (α × β × Bool)} {a : α} {b : β} {r : Bool} (h : look3 l a b = some r) : (a, b, r) ∈ l := by
  unfold look3 at h
  simp only [Option.map_eq_some_iff] at h
  obtain ⟨p, h1, h2⟩ := h
  have h3 := List.find?_some h1
  rw [Bool.and_eq_true] at h3
  obtain ⟨x, y, z⟩ := p
  have e1 : x = a := eq_of_beq h3.1
  have e2 : y = b := eq_of_beq h3.2
  have e3 : z = r := h2
  subst e1 e2 e3
  exact List.mem_of_find?_eq_some h1
theorem icl_ok {C : Addr} (c : Cls K C) (h : iclB K C = true) : ICls K C := by
  unfold iclB at h
  simp only [Bool.and_eq_true, decide_eq_true_eq] at h
  exact ⟨c, h.1, h.2.1, h.2.2.1, h.2.2.2⟩
theorem io_of {lt : List (Str × String × Bool)} {lg : List (Str × Str × Bool)} {lb : List (String × Str × Bool)} (h : itB K lt lg lb = true) (ht : ∀ p ∈ lt, mg p.1 = some (.ref (He.ga K p.1)) ∧ Cls K (He.ga K p.1)) (hg : ∀ p ∈ lg, mg p.1 = some (.ref (He.ga K p.1)) ∧ Cls K (He.ga K p.1) ∧ mg p.2.1 = some (.ref (He.ga K p.2.1)))
    (hb : ∀ p ∈ lb, mg p.2.1 = some (.ref (He.ga K p.2.1))) : IOk K mg ⟨look3 lt, look3 lg, look3 lb⟩ := by
  unfold itB at h
  simp only [Bool.and_eq_true, List.all_eq_true, decide_eq_true_eq] at h
  obtain ⟨h1, h2, h3⟩ := h
  refine ⟨fun k n b e => ?_, fun k y b e => ?_, fun a y b e => ?_⟩
  · have m := look3_in e
    obtain ⟨g1, g2⟩ := ht _ m
    obtain ⟨z1, z2⟩ := h1 _ m
    exact ⟨_, g1, icl_ok g2 z1, z2⟩
  · have m := look3_in e
    obtain ⟨g1, g2, g3⟩ := hg _ m
    obtain ⟨z1, z2⟩ := h2 _ m
    exact ⟨_, _, g1, icl_ok g2 z1, g3, z2⟩
  · have m := look3_in e
    exact ⟨_, hb _ m, h3 _ m⟩
end
/-! ### the end of a law, where exceptions say super() -/
def StaH (h : Heap) : Prop := ∃ o, h.get? cStatics = some o ∧ (match o.cls with
    | .type n => n != "list"
    | _ => true) = true ∧ PySem.W.nsIn [(cStatics, o)] cStatics "thirdparty.any" = some none
section
theorem law_endJ {l : PySem.W.OpenLaw} {q : Program} {loose : List Str} {XP : (Str → Option Value) → Heap → Prop} {YP : World → Heap → Prop} {d : DefRec} {n k : Nat} {x : Str} {st : Stmt} {N : List Str} {b : SM}
    (hn : l.most = some n) (hn2 : n ≤ sizeLine) (hdf : d.params.defaults = []) (hr : Room (k + 1) callerA) (hd : d.name = x) (bi : BI x x st ["script"]) (S : FnScope N ["script"] (defScope st))
    (F : ∀ (w : World) (mg : Str → Option Value) (h : Heap), YP w h → h.Ns mainGlobals mg → SysD h ∧ StaH h ∧ ∃ K : PySem.W.Frag, K.In h ∧ UG K mg x st ∧ ∀ base : Heap, SysD base → StaD base → BodC l.prog w K mg base N x (defScope st) (defBody st) b)
    (hlaw : ∀ ns : List Int, ns.length ≤ n → ∃ S', runDef 1 N.length b [.scr ns] [] = .ok (.bl true) S') : PySem.W.WalkO q loose XP YP l.row.toRowW d [] (fun f vs => PySem.call f vs) := by
  refine Att.attach_call hn hdf fun w s₀ s1 mg mb fa o pm cd doc a vs ns G Y ho hdd hcd hmg hobj hints hlen hg => ?_
  obtain ⟨hsys, hsta, K, KX, ⟨f, hm, fd, FD⟩, hB⟩ := F w mg _ Y G.T.g
  rw [hd, hm] at hmg
  cases hmg
  obtain ⟨H, B⟩ := bare_ex (P := l.prog) (w := w) (ns := ns) KX hobj hints (Nat.le_trans hlen hn2)
  have e0 := bare_env (P := l.prog) (w := w) B hobj KX G.T.g G.T.b G.T.builtins G.T.nolimit hg
  have hbase : SysD (hidT s1.heap H) := by
    obtain ⟨o, e1, e2⟩ := hsys
    refine ⟨o, hidT_get e1 ?_, e2⟩
    cases q : H sysModules with
    | none => rfl
    | some u =>
      have e3 := B.at_ sysModules (by rw [q]; exact Option.some_ne_none _)
      rw [e3, hobj] at e1
      cases e1
      have e4 : Value.type "list" = Value.type "dict" := e2
      injection e4 with e5
      exact absurd e5 (by decide)
  have hbst : StaD (hidT s1.heap H) := by
    obtain ⟨o, e1, e2, e3⟩ := hsta
    refine ⟨[(cStatics, o)], fun a o' z => ?_, e3⟩
    have ez : a = cStatics ∧ o = o' := by
      rw [List.lookup_cons] at z
      split at z
      · rename_i q; exact ⟨eq_of_beq q, Option.some.inj z⟩
      · cases z
    obtain ⟨rfl, rfl⟩ := ez
    refine hidT_get e1 ?_
    cases q : H cStatics with
    | none => rfl
    | some u =>
      have e4 := B.at_ cStatics (by rw [q]; exact Option.some_ne_none _)
      rw [e4, hobj] at e1
      cases e1
      have e5 : ("list" != "list") = true := e2
      exact absurd e5 (by decide)
  obtain ⟨S', e⟩ := hlaw ns hlen
  have hsp : spM K mg 1 (runDef 1 N.length b) [.ref a] H (fun v _ => v = .bl true) fun _ _ _ => False := sp_law B.only B.sq e
  refine codeAny_mono (def_run (ps := ["script"]) FD S hr e0 (FunD.bindsA (ps := ["script"]) FD bi s1 [.ref a] rfl) (show Vals [V.ref a] [Value.ref a] from .cons rfl .nil) (hB _ hbase hbst) hsp) fun r s' h => ?_
  cases r with
  | error e => exact (cx_none (P := l.prog) (w := w) H s1 e s' h).elim
  | ok fl =>
    cases fl with
    | ret u =>
      obtain ⟨rfl, h2⟩ := bare_end B h
      exact ⟨rfl, h2⟩
    | next => exact (show False from h).elim
    | brk => exact (show False from h).elim
    | cont => exact (show False from h).elim
end
/-! ### a, b, c = x, y, z -/
def sPar3 (i j l : Nat) (a b c : EM) : SM := fun e S => (a e S).thn e fun x S1 => (b e S1).thn e fun y S2 => (c e S2).thn e fun z S3 => .nx (((e.set i (some x)).set j (some y)).set l (some z)) S3
@[simp] theorem sPar3_ap {i j l : Nat} {a b c : EM} {e : En} {S : Store} : sPar3 i j l a b c e S = (a e S).thn e fun x S1 => (b e S1).thn e fun y S2 => (c e S2).thn e fun z S3 => .nx (((e.set i (some x)).set j (some y)).set l (some z)) S3 := rfl
section
variable {X : Cx} {Wx : WX} {a b c : Expr} {A B C : EM} {pos : Pos}
theorem ms_par3 {i j l : Nat} {x y z : Str} {px py pz pt : Pos} {kt k2 pt2} (hc : X.calm = true) (hN : X.N.Nodup) (hi : X.N[i]? = some x) (hj : X.N[j]? = some y) (hl : X.N[l]? = some z) (hij : i ≠ j) (hil : i ≠ l) (hjl : j ≠ l)
    (hx : X.env.scope.names.lookup x = some .local) (hy : X.env.scope.names.lookup y = some .local) (hz : X.env.scope.names.lookup z = some .local) (ha : ME X Wx a A) (hb : ME X Wx b B) (hcc : ME X Wx c C)
    (hw : swappedStores [.Tuple [.Name x px, .Name y py, .Name z pz] kt pt] (.Tuple [a, b, c] k2 pt2) X.env = pure (some [x, y, z]))
    (hs : swapsWithSole [.Tuple [.Name x px, .Name y py, .Name z pz] kt pt] (.Tuple [a, b, c] k2 pt2) pos.line X.env = pure false := by rfl)
    (s1 : starEach [a, b, c] X.env = (false, eval a X.env) :: starEach [b, c] X.env := by rfl) (s2 : starEach [b, c] X.env = (false, eval b X.env) :: starEach [c] X.env := by rfl) (s3 : starEach [c] X.env = (false, eval c X.env) :: starEach [] X.env := by rfl) :
    MS X Wx (.Assign [.Tuple [.Name x px, .Name y py, .Name z pz] kt pt] (.Tuple [a, b, c] k2 pt2) pos) (sPar3 i j l A B C) := leS (ps_par3 hc hN hi hj hl hij hil hjl hx hy hz (pa_cons ha (pa_cons hb (pa_cons hcc pa_nil s3) s2) s1) hw hs) fun D σ H ⟨e, S, φ, er, sr, q⟩ => by
  refine ⟨e, S, φ, er, sr, PostS.thn er q fun w S1 v H1 φ1 x1 s1 r1 q1 => ⟨e, S1, φ1, er.mono x1, s1, PostS.thn (er.mono x1) q1 fun w2 S2 v2 H2 φ2 x2 s2 r2 q2 => ⟨e, S2, φ2, (er.mono x1).mono x2, s2, PostS.thn ((er.mono x1).mono x2) q2 fun w3 S3 v3 H3 φ3 x3 s3 r3 q3 => ?_⟩⟩⟩
  exact ⟨v, v2, v3, rfl, q3 _ H3 φ3 .refl ((((((er.mono x1).mono x2).mono x3).set ((r1.mono x2).mono x3)).set (r2.mono x3)).set r3) s3⟩
end
/-! ### for the printed texts -/
section
variable {P : Program} {w : World} {K : PySem.W.Frag} {mg : Str → Option Value} {base : Heap} {qual c : Str} {st : Stmt} {N ps ks : List Str} {k : Nat} {b : SM}
theorem m_gloE {X : Cx} {Wx : WX} {x : Str} {pos : Pos} (hg : Gl X x) (hm : ∃ u, X.mg x = some (.ref u)) (hd : (x == ("__debug__" : Str)) = false := by decide) : ME X Wx (.Name x pos) (eC (.glo x)) := let ⟨u, hm⟩ := hm; m_glo hg hm hd
theorem km_ok0 (h : UK K mg c qual st) (bk : BK "__init__" qual st ps ks) : KmOk P w K mg base 0 c ps ks fun _ _ => .bad := by
  obtain ⟨A, f, h1, h2, fd, F⟩ := h
  exact ⟨A, f, fd, h1, h2, ⟨spM_len rfl, fun A outer s H args us vs Q E hr e0 b r ⟨ws, S, φ, _, _, _, q⟩ => q.elim⟩, F.kp, fun _ _ _ => rfl, fun s u ws l1 l2 => bk_to F bk s [u] ws l1 l2⟩
theorem km_ok (h : UK K mg c qual st) (bk : BK "__init__" qual st ps ks) (S : FnScope N ps (defScope st)) (hB : Bod P w K mg base k N qual (defScope st) (defBody st) b) : KmOk P w K mg base (k + 1) c ps ks (runDef ps.length N.length b) := by
  obtain ⟨A, f, h1, h2, fd, F⟩ := h
  exact ⟨A, f, fd, h1, h2, F.ok S (spM_len rfl) (fun cdv A outer s H vs Q E hr h => ⟨_, hB f cdv A outer s H E hr, run_read h⟩), F.kp, ary_run, fun s u ws l1 l2 => bk_to F bk s [u] ws l1 l2⟩
structure SxU (K : PySem.W.Frag) (mg : Str → Option Value) (file : Str) (d : SupD) (fl : List (Str × Str)) : Prop where
  m : mg d.cls = some (.ref (He.ga K d.cls))
  e : supW K d.cls = d.val
  b : supB K file d = true
  k : supK K d.cls (fl.map (·.1)) = true
  s0 : mg "super" = none
theorem rx_u {file : Str} {d : SupD} {as : List Str} {fl : List (Str × Str)} {n : Nat} {ixs : List (Str × Nat)} (U : SxU K mg file d fl) (S : StB d.params d.body d.scope as fl) (hP : P.main.file = file ∧ (P.main.scope.names.lookup ("super" : Str)).isSome = false) (hst : StaD base)
    (hn : as.length = n) (hi : ixs = fl.map fun p => (p.1, as.idxOf p.2)) (h0 : fl ≠ []) (h9 : fl.length ≤ 900) (hn9 : n ≤ 1000) : RxOk P K mg base d.cls n ixs := rx_of U.m U.e U.b U.k S hP.1 hP.2 U.s0 hst hn hi h0 h9 hn9
end
@[simp] theorem isiM_ap {it : ITab} {ws : List W} {S : Store} : isiM it ws S = match isiN ws S with
  | some r => some r
  | none => match ws with
    | [x, .ty n] => match clsW x S with
      | some k => (it.t k n).map fun b => (.bl b, S)
      | none => none
    | [x, .tup cs] => match clsW x S with
      | some k => if cs.isEmpty = true then none else (anyC (it.t k) cs).map fun b => (.bl b, S)
      | none => none
    | [x, .glo y] => match clsW x S with
      | some k => (it.g k y).map fun b => (.bl b, S)
      | none => match tyName x S with
        | some a => (it.b a y).map fun b => (.bl b, S)
        | none => none
    | _ => none := rfl
end Sh

set_option Elab.async false
set_option linter.all false
set_option maxRecDepth 100000
set_option maxHeartbeats 2000000
/-! ShG: defs that say repr, called where no repr is under way; range(a, b, -1); repr of an exception's field. -/
namespace Sh
open PySem PySem.Spec PyProof.Rows L2
/-- a def's promise, where no repr is under way -/
structure FnG (P : Program) (w : World) (K : PySem.W.Frag) (mg : Str → Option Value) (base : Heap) (CX : CXT) (k : Nat) (f : Addr) (fd : FuncData) (ps : List Str) (sp : Sp) : Prop where
  len : ∀ vs H Q E, sp vs H Q E → vs.length = ps.length
  run : ∀ (A : Around) (outer : List Env) (s : Shared) (H : Hp) (args : Args) (us : List Value) (vs : List V) (Q : VK) (E : XK), Room k A → A.guards = some [] → Env0 P w K mg base A outer s H → BindsTo s fd args (ps.zip us) → Vals vs us → sp vs H Q E →
    codeAny (model P w) A (.call (.ref f) args) (CR CX outer P w H s Q E) s
def DefG (P : Program) (w : World) (K : PySem.W.Frag) (mg : Str → Option Value) (base : Heap) (k : Nat) (f : Addr) (ps : List Str) (C : Cal) : Prop := ∃ fd, FnG P w K mg base (L2.CX P w) k f fd ps (spM K mg ps.length C) ∧ Binds K fd ps [] ∧ PySem.W.keepIn K (.ref f) = true ∧ Ary ps.length C
def GlG (P : Program) (w : World) (K : PySem.W.Frag) (mg : Str → Option Value) (base : Heap) (k : Nat) (x : Str) (ps : List Str) (C : Cal) : Prop := ∃ f, mg x = some (.ref f) ∧ DefG P w K mg base k f ps C
/-- its body has this model, where no repr is under way -/
def BodG (P : Program) (w : World) (K : PySem.W.Frag) (mg : Str → Option Value) (base : Heap) (k : Nat) (N : List Str) (qual : Str) (scope : Scope) (body : List Stmt) (b : SM) : Prop := ∀ (f : Addr) (cd : Value) (A : Around) (outer : List Env) (s : Shared) (H : Hp) (E : XK),
  Room k (dX P w K mg base N qual scope f cd A outer s H E).A → (dX P w K mg base N qual scope f cd A outer s H E).A.guards = some [] → MSs (dX P w K mg base N qual scope f cd A outer s H E) (fun cls d _ H => E cls d H) body b
theorem units_of {k : Nat} {A : Around} (h : Room k A) : A.units + 70 < cLine := by have := h.un; omega
section
variable {P : Program} {w : World} {K : PySem.W.Frag} {mg : Str → Option Value} {base : Heap} {x qual : Str} {params : Arguments} {body : List Stmt} {scope : Scope} {f : Addr} {fd : FuncData} {N ps : List Str} {k : Nat} {b : SM} {st : Stmt}
theorem fnG_of {sp : Sp} (F : FunD K x qual params body scope [] [] f fd) (S : FnScope N ps scope) (len : ∀ vs H Q E, sp vs H Q E → vs.length = ps.length)
    (hbody : ∀ (cdv : Value) (A : Around) (outer : List Env) (s : Shared) (H : Hp) (vs : List V) (Q : VK) (E : XK), Room k (A.deeper (envOfC qual scope s.heap.objs.size f cdv)) → A.guards = some [] → sp vs H Q E →
      ∃ t, PSs (dX P w K mg base N qual scope f cdv A outer s H E) body t ∧ t { nx := fun _ H' => Q .non H', rt := Q } (L2.start N vs) H) :
    FnG P w K mg base (L2.CX P w) (k + 1) f fd ps sp := by
  obtain ⟨oc, od, dV, kV, doc, pm, an, cdv, ct, osl, rfl, lk, hcd, _, _⟩ := F.ex
  refine ⟨len, fun A outer s H args us vs Q E hr hg e0 hb r hsp => ?_⟩
  have hl := len _ _ _ _ hsp
  have KX : K.In s.heap := e0.mod.kin.keeps fun b o e => (e0.bs b o e).1
  have lim : s.heap.NoLimit := e0.mod.nolimit.keeps fun b o e => (e0.bs b o e).1
  have hkind : ∀ y ∈ ps.zip us, scope.names.lookup y.1 = some .local ∨ (scope.names.lookup y.1 = some .cell ∧ ((cellsFrom (s.heap.objs.size + 1) scope.names []).lookup y.1).isSome = true) := fun ⟨n, v⟩ hy => by
    rcases S.par n (List.of_mem_zip hy).1 with q | q
    · exact .inl q
    · exact .inr ⟨q, PySem.W.cellsFrom_some _ _ _ (.inl q)⟩
  refine codeAny_call_function hr.depth (KX _ _ lk) rfl S.co S.gen rfl (PySem.W.codeRec_of KX hcd) (hb _ _ _ _ ?_)
  refine wpAny_newFunctionEnv_cells S.kind hkind fun env he s1 x => ?_
  subst he
  refine ⟨lim.keeps x.toInCall.keep, codeAny_func ?_⟩
  obtain ⟨t, ht, hq⟩ := hbody cdv A outer s H vs Q E (hr.deeper _) hg hsp
  have I : Inv (dX P w K mg base N qual scope f cdv A outer s H E) [] (L2.start N vs) H s1 := inv_start S hr.hd e0 hl r x
  refine wpAny_mono (ht.run [] s1 (L2.start N vs) H _ I hq) (fun fl s' hs => ?_) fun e s' hs => hs
  have fin : ∀ {σ' : L2.St} {H' : Hp} {v : V} {u : Value}, Inv (dX P w K mg base N qual scope f cdv A outer s H E) [] σ' H' s' → RelV v u → Q v H' → CE outer P w H s Q u s' :=
    fun {σ' H' v u} J rv q => ⟨v, H', J.os, J.bare, J.base, J.hok, rv, q⟩
  cases fl with
  | ret u =>
    obtain ⟨v, σ', H', J, rv, q⟩ := hs
    exact fin J rv q
  | next =>
    obtain ⟨σ', H', J, q⟩ := hs
    exact fin (v := V.non) (u := Value.none) J rfl q
  | brk =>
    obtain ⟨_, _, _, q⟩ := hs
    exact False.elim q
  | cont =>
    obtain ⟨_, _, _, q⟩ := hs
    exact False.elim q
theorem def_okG (F : FunD K x qual params body scope [] [] f fd) (S : FnScope N ps scope) (hb : Binds K fd ps []) (hB : BodG P w K mg base k N qual scope body b) : DefG P w K mg base (k + 1) f ps (runDef ps.length N.length b) :=
  ⟨fd, fnG_of F S (spM_len rfl) (fun cdv A outer s H vs Q E hr hg h => ⟨_, hB f cdv A outer s H E hr hg, run_read h⟩), hb, F.kp, ary_run⟩
theorem ug_ok0G (h : UG K mg x st) (bi : BI x x st ps) : GlG P w K mg base 0 x ps fun _ _ => .bad := by
  obtain ⟨f, m, fd, F⟩ := h
  exact ⟨f, m, fd, ⟨spM_len rfl, fun A outer s H args us vs Q E hr hg e0 b r ⟨ws, S, φ, _, _, _, q⟩ => q.elim⟩, F.bindsN bi, F.kp, fun _ _ _ => rfl⟩
theorem ug_okG (h : UG K mg x st) (bi : BI x x st ps) (S : FnScope N ps (defScope st)) (hB : BodG P w K mg base k N x (defScope st) (defBody st) b) : GlG P w K mg base (k + 1) x ps (runDef ps.length N.length b) := by
  obtain ⟨f, m, fd, F⟩ := h
  exact ⟨f, m, def_okG F S (F.bindsN bi) hB⟩
end
section
variable {X : Cx} {Wx : WX} {k : Nat} {C : Cal} {ps : List Str} {x : Str} {p pos : Pos} {a b : Expr} {es : List Expr} {A B : EM} {As : List EM}
theorem run_fnG {CX : CXT} {f : Addr} {fd : FuncData} {sp : Sp} {E : L2.St → XK} {pins : List (Addr × Obj)} {σ : L2.St} {H : Hp} {s : Shared} {Q : VK} {us : List Value} {vs : List V} (F : FnG X.prog X.w X.K X.mg X.base CX k f fd ps sp) (hr : Room k X.A) (hgd : X.A.guards = some []) (hb : Binds X.K fd ps []) (hx : PassesAt CX X σ (E σ))
    (I : Inv X pins σ H s) (r : Vals vs us) (h : sp vs H Q (E σ)) : wpAny (model X.prog X.w) X.A (call (.ref f) us) (EP X pins σ Q) X.xe s := by
  have r2 : Vals (vs ++ []) (us ++ []) := r.append .nil
  rw [List.append_nil] at r2
  have hl : (us ++ []).length = ps.length := by rw [← r2.length]; exact F.len _ _ _ _ h
  refine wpAny_call (codeAny_mono (F.run X.A X.stack s H ⟨us, []⟩ (us ++ []) vs Q (E σ) hr hgd I.env0 (hb s us I.kIn hl) r2 h) fun r s' hq => ?_)
  cases r with
  | error e => exact hx pins H s e s' I hq
  | ok fl =>
    cases fl with
    | ret u => exact I.after hq
    | next => exact False.elim hq
    | brk => exact False.elim hq
    | cont => exact False.elim hq
theorem m_callG (F : GlG X.prog X.w X.K X.mg X.base k x ps C) (hgd : X.A.guards = some []) (hr : Room k X.A) (tk : Takes X Wx) (hg : Gl X x) (ha : MA X Wx (a :: es) (evs As)) (hdb : (x == ("__debug__" : Str)) = false := by decide) (he : starEach (a :: es) X.env = (false, eval a X.env) :: starEach es X.env := by rfl) (hpl : (backTo pos (starEach es X.env)).any (·.1) = false := by rfl) :
    ME X Wx (.Call (.Name x p) (a :: es) [] pos) (eCall C As) := by
  obtain ⟨f, hm, fd, F, hb, hk, hC⟩ := F
  refine ⟨fun pins s σ H Q I ⟨e, S, φ, er, sr, q⟩ => ?_⟩
  refine wpAny_Call_Name_kw (ld_glob I hg hm ?_ hdb)
  refine PySem.W.callWith_K (h₀ := X.base) I.ok.mod.kin hk (thn (ha.run pos pins s σ H _ I ⟨e, S, φ, er, sr, PostR.bind (G := fun vs H1 => spM X.K X.mg ps.length C vs H1 Q (WE Wx σ)) q fun ws S1 vs H1 φ1 x1 s1 r1 q1 => spM_of hC r1 s1 q1⟩) fun us s1 ⟨vs, H1, I1, r, q⟩ => ⟨I1.kIn, ?_⟩) he hpl
  exact run_fnG (E := fun σ => WE Wx σ) F hr hgd hb (passAt tk σ) I1 r q
/-! ### range(a, b, -1) -/
def itD (m : Int) (n : Nat) : ItM := fun i _ => some (if i < n then some (.int (m + (i : Nat) * (-1))) else none)
noncomputable def iRangeD (a b c : EM) : IM := fun e S => (a e S).bind fun w S1 => (b e S1).bind fun v S2 => (c e S2).bind fun u S3 => match w, v, u with
  | .int m, .int n, .int k => if k = -1 ∧ -big ≤ m ∧ m < big ∧ -big ≤ n ∧ n < big then .ok (itD m (m - n).toNat) S3 else .bad
  | _, _, _ => .bad
theorem jr_rngD {K : PySem.W.Frag} {mg : Str → Option Value} {H : Hp} {φ : Fi} {lo : Int} {n : Nat} : JR K mg H φ (itD lo n) (Itc lo (-1) n) := fun i S H1 φ1 x s => by
  simp only [itD]
  by_cases h : i < n
  · rw [if_pos h]
    refine ⟨h, fun y H' ⟨eh, hy⟩ => ?_⟩
    subst eh; subst hy
    exact ⟨rfl, by simp [VR]⟩
  · rw [if_neg h]
    exact Nat.le_of_not_lt h
theorem mi_rangeD {tg c : Expr} {p : Pos} {D : EM} (hg : Gl X "range") (hm : X.mg "range" = none) (ha : ME X Wx a A) (hb : ME X Wx b B) (hc : ME X Wx c D) (hs : starEach [a, b, c] X.env = (false, eval a X.env) :: starEach [b, c] X.env := by rfl) (hs2 : starEach [b, c] X.env = (false, eval b X.env) :: starEach [c] X.env := by rfl) (hs3 : starEach [c] X.env = (false, eval c X.env) :: starEach [] X.env := by rfl) (hpl : (backTo pos (starEach [b, c] X.env)).any (·.1) = false := by rfl) :
    MI X Wx tg (.Call (.Name "range" p) [a, b, c] [] pos) (iRangeD A B D) :=
  leI (pi_range3 hg hm (pa_cons ha (pa_cons hb (pa_cons hc pa_nil hs3) hs2) hs) hs hpl) fun σ H R ⟨e, S, φ, er, sr, q⟩ => ⟨e, S, φ, er, sr, PostR.bind q fun w S1 v H1 φ1 x1 s1 r1 q1 => ⟨e, S1, φ1, er.mono x1, s1, q1.bind fun w2 S2 v2 H2 φ2 x2 s2 r2 q2 => ⟨e, S2, φ2, (er.mono x1).mono x2, s2, q2.bind fun w3 S3 v3 H3 φ3 x3 s3 r3 q3 => by
    cases w with
    | int m =>
      cases w2 with
      | int n =>
        cases w3 with
        | int k =>
          cases (show v = .int m from r1)
          cases (show v2 = .int n from r2)
          cases (show v3 = .int k from r3)
          dsimp only at q3
          split at q3
          · rename_i hz
            rw [big_eq] at hz
            obtain ⟨rfl, z1, z2, z3, z4⟩ := hz
            exact ⟨m, n, -1, (m - n).toNat, rfl, RgC.neg z1 z2 z3 z4, q3 (Itc m (-1) (m - n).toNat) H3 φ3 .refl s3 jr_rngD⟩
          · exact q3.elim
        | _ => exact q3.elim
      | _ => exact q3.elim
    | _ => exact q3.elim⟩⟩⟩
/-! ### repr of an item -/
def fRep (g : XF) : XF := fun x => match g x with
  | some w => match pyW w with
    | some d => if reprOk d = true then some (.str d.shown) else none
    | none => none
  | none => none
theorem xj_repr {i : Nat} {g : XF} {e : Expr} (hgd : X.A.guards = some []) (hu : X.A.units + 70 < cLine) (hmm : SysD X.base) (h : XI X i g e) (hg : Gl X "repr") (hm : X.mg "repr" = none) (he : starEach [e] X.env = (false, eval e X.env) :: starEach [] X.env := by rfl) (hpl : (backTo pos (starEach [] X.env)).any (·.1) = false := by rfl) : XI X i (fRep g) (.Call (.Name "repr" p) [e] [] pos) := fun a oe cls d pn hz hd =>
  leE (pe_callB (call_repr (X := X.suite a ((a, oe) :: pn)) hgd hu hmm) hg hm boot_repr (pa_cons (h a oe cls d pn hz hd) pa_nil he) (by decide) (by decide) he hpl) fun σ H Q ⟨x, φ, w, xr, hi, e, q⟩ => by
  unfold fRep at e
  split at e
  · rename_i w0 e1
    split at e
    · rename_i dd hdd
      split at e
      · rename_i hok
        cases e
        exact ⟨x, φ, _, xr, hi, e1, fun v r => ⟨v, dd, rfl, rdv_of r hdd, hok, q _ rfl⟩⟩
      · cases e
    · cases e
  · cases e
end
end Sh

set_option Elab.async false
set_option linter.all false
set_option maxRecDepth 100000
set_option maxHeartbeats 2000000
/-! ShO: == of an instance by its class' own __eq__; methods with keywords. -/
namespace Sh
open PySem PySem.Spec PyProof.Rows L2
/-- types that stand beside the class at c: none of them below it -/
structure EqOk (K : PySem.W.Frag) (mg : Str → Option Value) (c : Str) (ts : List String) : Prop where
  ex : ∃ C, mg c = some (.ref C) ∧ ICls K C ∧ ∀ a ∈ ts, PySem.W.subIn K (.type a) (.ref C) = some false
def eqTyB (c : Str) (ts : List String) (y : W) (S : Store) : Bool := match clsW y S with
  | some k => decide (k = c)
  | none => match tyName y S with
    | some a => ts.contains a
    | none => false
/-- a == b, a an instance of c -/
def eEqI (c : Str) (ts : List String) (C : Cal) (A B : EM) : EM := fun e S => (A e S).bind fun x S1 => (B e S1).bind fun y S2 => if clsW x S2 = some c ∧ eqTyB c ts y S2 = true then (C [x, y] S2).noexc.bind fun w S3 => (match w with
  | .bl b => .ok (.bl b) S3
  | _ => .bad) else .bad
section
variable {X : Cx} {Wx : WX} {k : Nat} {C : Cal} {ps : List Str} {c : Str} {pos : Pos} {a b : Expr} {A B : EM} {ts : List String}
theorem PostR.noexc {α β : Type} {K : PySem.W.Frag} {mg : Str → Option Value} {Wx Wx' : WX} {Rel : Hp → Fi → α → β → Prop} {σ σ' : L2.St} {H : Hp} {φ : Fi} {Q : β → Hp → Prop} {r : R α} (h : PostR K mg Wx Rel σ H φ Q r.noexc) : PostR K mg Wx' Rel σ' H φ Q r := by
  cases r with
  | ok a S => exact h
  | exc x S => exact h.elim
  | bad => exact h.elim
theorem m_eqI (F : MtOk X.prog X.w X.K X.mg X.base k c "__eq__" ps C) (E : EqOk X.K X.mg c ts) (hr : Room k X.A) (ha : ME X Wx a A) (hb : ME X Wx b B) (hm : behindInMarks .Eq b = false) : ME X Wx (.Compare a [.Eq] [b] pos) (eEqI c ts C A B) := by
  obtain ⟨M, f, hmg, hc, hmt, fd, F, hbi, hk, hC⟩ := F
  obtain ⟨M', hmg', IC, hsub⟩ := E.ex
  rw [hmg] at hmg'
  cases hmg'
  have op : OpR X (compareOp .Eq) (fun x y H Q => (∃ p dx fs, x = .ref p ∧ H p = some (.ins M dx fs)) ∧ (∃ t, TyX X.K H y t ∧ PySem.W.notFirst X.K M t = true) ∧ spM X.K X.mg ps.length C [x, y] H (fun v H' => (∃ b, v = .bl b) ∧ Q v H') (fun _ _ _ => False)) := by
    intro pins s σ H x y v u Q I rx ry ⟨⟨p, dx, fs, e1, hp⟩, ⟨t, ty, hn⟩, q⟩
    subst e1
    have hl : ([V.ref p, y] : List V).length = ps.length := F.len _ _ _ _ q
    cases rx
    obtain ⟨mA, J, _⟩ := ins_get I.hok hp
    obtain ⟨od, J, _⟩ := J.look
    obtain ⟨m, hF⟩ := I.fr
    obtain ⟨Pt, kt, hPt, _⟩ := kit_of I ry ty
    show wpAny (model X.prog X.w) X.A (richCompare .Eq (.ref p) u) (EP X pins σ Q) X.xe s
    refine PySem.W.cmp_K (op := .Eq) (tb := t) hr.units0 hF I.ok.mod.kin J (kt.ty _ _ I.kIn hPt) hn hmt.at_ hmt.fn ?_
    have r2 : Vals [V.ref p, y] [Value.ref p, u] := .cons rfl (.cons ry .nil)
    refine wpAny_call (codeAny_mono (F.run X.A X.stack s H ⟨[.ref p, u], []⟩ [.ref p, u] [.ref p, y] _ (fun _ _ _ => False) hr I.env0 (by
      have := hbi s [.ref p, u] I.kIn (by simpa using hl)
      simpa using this) r2 q) fun r s' hq => ?_)
    cases r with
    | error e =>
        obtain ⟨_, _, _, _, _, _, _, _, _, _, _, _, z⟩ := hq
        exact z.elim
    | ok fl =>
      cases fl with
      | ret w =>
        obtain ⟨z, H', I', rz, ⟨bb, eb⟩, qz⟩ := I.after hq
        subst eb
        cases rz
        exact ⟨.bl bb, H', I', rfl, qz⟩
      | next => exact False.elim hq
      | brk => exact False.elim hq
      | cont => exact False.elim hq
  refine leE (pe_cmpR op ha hb hm) fun σ H Q ⟨e, S, φ, er, sr, q⟩ => ⟨e, S, φ, er, sr, q.bind fun w S1 v H1 φ1 x1 s1 r1 q1 => ⟨e, S1, φ1, er.mono x1, s1, q1.bind fun w' S2 v' H2 φ2 x2 s2 r2 q2 => ?_⟩⟩
  have r1' := r1.mono x2
  split at q2
  · rename_i hcond
    obtain ⟨h1, h2⟩ := hcond
    refine ⟨?_, ?_, ?_⟩
    · cases w with
      | ref a0 =>
        simp only [clsW] at h1
        split at h1
        · rename_i k' fs e0
          cases h1
          obtain ⟨p, rfl, t⟩ := vref r1'
          obtain ⟨C', dx, us, m', hp, kr⟩ := s2.at_ a0 _ p e0 t
          rw [hmg] at m'; cases m'
          exact ⟨p, dx, us, rfl, hp⟩
        · cases h1
      | _ => cases h1
    · unfold eqTyB at h2
      cases hcl : clsW w' S2 with
      | some k' =>
        rw [hcl] at h2
        have e2 : k' = c := of_decide_eq_true h2
        subst e2
        exact ⟨_, cls_ty s2 r2 hcl hmg IC, by simp [PySem.W.notFirst]⟩
      | none =>
        rw [hcl] at h2
        cases hty : tyName w' S2 with
        | some a' =>
          rw [hty] at h2
          refine ⟨_, ty_ok s2 r2 hty, ?_⟩
          have := hsub a' (by simpa using h2)
          simp [PySem.W.notFirst, this]
        | none => rw [hty] at h2; cases h2
    · have q3 : PostR X.K X.mg Wx (VR X.K X.mg) σ H2 φ2 Q ((C [w, w'] S2).noexc.bind fun w S3 => (match w with
        | .bl b => .ok (.bl b) S3
        | _ => .bad)) := q2
      have q4 := q3.bind (G := fun v H' => (∃ b, v = .bl b) ∧ Q v H') (Rel := VR X.K X.mg) (fun z S3 vz H3 φ3 x3 s3 rz qz => by
        cases z with
        | bl bb =>
          cases (show vz = .bl bb from rz)
          exact ⟨⟨bb, rfl⟩, qz.ok_at s3 (by simp [VR])⟩
        | _ => exact qz.elim)
      have q5 := PostR.noexc (Wx' := fun _ _ _ _ => False) (σ' := σ) q4
      refine ⟨[w, w'], S2, φ2, VRs.cons r1' (VRs.one r2), s2, ?_, q5⟩
      by_cases h : ([w, w'] : List W).length = ps.length
      · exact h
      · rw [hC [w, w'] S2 h] at q5; exact q5.elim
  · exact q2.elim
end
/-! ### calls whose arguments are frozen first; flat results -/
mutual
def flatW : W → Bool
  | .non => true
  | .bl _ => true
  | .int _ => true
  | .str _ => true
  | .tup ws => flatWs ws
  | _ => false
def flatWs : List W → Bool
  | [] => true
  | w :: ws => flatW w && flatWs ws
end
section
variable {K : PySem.W.Frag} {mg : Str → Option Value} {H H' : Hp} {φ φ' : Fi} {S : Store}
mutual
theorem VR.flat : ∀ {w : W} {v : V}, flatW w = true → VR K mg H φ w v → VR K mg H φ' w v
  | .non, v, _, h => h
  | .bl b, v, _, h => h
  | .int i, v, _, h => h
  | .str s, v, _, h => h
  | .tup ws, v, l, h => by
    simp only [VR] at h ⊢
    obtain ⟨p, vs, e, q, r⟩ := h
    exact ⟨p, vs, e, q, VRs.flat (by simpa [flatW] using l) r⟩
  | .ref a, v, l, h => by cases l
  | .ty n, v, l, h => by cases l
  | .glo y, v, l, h => by cases l
  | .lst ws, v, l, h => by cases l
  | .dic ks ws, v, l, h => by cases l
  | .scr ns, v, l, h => by cases l
  | .siz n, v, l, h => by cases l
theorem VRs.flat : ∀ {ws : List W} {vs : List V}, flatWs ws = true → VRs K mg H φ ws vs → VRs K mg H φ' ws vs
  | [], vs, _, h => by simp only [VRs] at h ⊢; exact h
  | w :: ws, vs, l, h => by
    simp only [flatWs, Bool.and_eq_true] at l
    simp only [VRs] at h ⊢
    obtain ⟨v, r, e, a, b⟩ := h
    exact ⟨v, r, e, VR.flat l.1 a, VRs.flat l.2 b⟩
end
def Fi.bare (φ : Fi) : Fi := ⟨[], φ.h⟩
theorem SR.bare (s : SR K mg H φ S) : SR K mg H φ.bare [] := ⟨rfl, List.nodup_nil, fun a ob p e _ => by simp at e, fun D hD => ⟨by simp [Fi.bare], (s.hd D hD).2⟩⟩
/-- nothing of the store was named in between: all stands as it was -/
theorem Ext.unbare (x : Ext H H' φ.bare φ') (s : SR K mg H φ S) : Ext H H' φ φ ∧ SR K mg H' φ S := by
  have y : Ext H H' φ φ := ⟨⟨[], by simp⟩, rfl, fun p o h _ => x.fr p o h (by simp [Fi.bare]), fun p h n => absurd h n, x.tup, x.frz⟩
  refine ⟨y, s.len, s.nd, fun a ob p e q => ?_, s.hidden y⟩
  have o := s.at_ a ob p e q
  refine o.mono y ?_
  cases ob with
  | lst ws => obtain ⟨vs, h, r⟩ := o; rw [h]; exact x.fr p _ h (by simp [Fi.bare])
  | dic kvs => obtain ⟨us, h, r⟩ := o; rw [h]; exact x.fr p _ h (by simp [Fi.bare])
  | ins c fs => obtain ⟨C, dx, us, m, h, r⟩ := o; rw [h]; exact x.fr p _ h (by simp [Fi.bare])
def fzA (S : Store) (ws : List W) : Option (List W) := fzL (fzD 0 S 6) ws
theorem fzA_ok (s : SR K mg H φ S) {ws ws' : List W} {vs : List V} (e : fzA S ws = some ws') (r : VRs K mg H φ ws vs) : VRs K mg H φ.bare ws' vs := by
  have := fzL_ok (n := 0) (fun w w' v e h => fzD_ok s 6 w w' v e h) e r
  exact this
end
noncomputable def eCallV (C : Cal) (as : List EM) : EM := fun e S => (evs as e S).bind fun xs S1 => match fzA S1 xs with
  | some ys => match C ys [] with
    | .ok w _ => if flatW w = true then .ok w S1 else .bad
    | _ => .bad
  | none => .bad
noncomputable def eMakeV (c : Str) (C : Cal) (as : List EM) : EM := fun e S => (evs as e S).bind fun xs S1 => match fzA S1 xs with
  | some ys => match C (.ref 0 :: ys) [.ins c []] with
    | .ok .non (.ins c' fs :: _) => if c' = c ∧ flatWs (fs.map (·.2)) = true then .ok (.ref S1.length) (S1 ++ [.ins c fs]) else .bad
    | _ => .bad
  | none => .bad
section
variable {X : Cx} {Wx : WX} {k : Nat} {C : Cal} {ps : List Str} {c m x : Str} {p pos apos : Pos} {a o : Expr} {es : List Expr} {As : List EM} {O : EM}
theorem m_callV (F : GlOk X.prog X.w X.K X.mg X.base k x ps C) (hr : Room k X.A) (tk : Takes X Wx) (hg : Gl X x) (ha : MA X Wx (a :: es) (evs As)) (hdb : (x == ("__debug__" : Str)) = false := by decide) (he : starEach (a :: es) X.env = (false, eval a X.env) :: starEach es X.env := by rfl) (hpl : (backTo pos (starEach es X.env)).any (·.1) = false := by rfl) :
    ME X Wx (.Call (.Name x p) (a :: es) [] pos) (eCallV C As) := by
  obtain ⟨f, hm, fd, F, hb, hk, hC⟩ := F
  refine leE (pe_callSD (E := fun σ => WE Wx σ) F hr hg hm hk hb .nil (fun σ => passAt tk σ) ha hdb he hpl) fun σ H Q ⟨e, S, φ, er, sr, q⟩ => ⟨e, S, φ, er, sr, q.bind fun ws S1 vs H1 φ1 x1 s1 r1 q1 => ?_⟩
  show spM _ _ _ _ (vs ++ []) H1 Q (WE Wx σ)
  rw [List.append_nil]
  cases hf : fzA S1 ws with
  | none => rw [hf] at q1; exact q1.elim
  | some ys =>
    rw [hf] at q1
    refine spM_of (Wx := Wx) (σ := σ) hC (fzA_ok s1 hf r1) s1.bare ?_
    dsimp only at q1
    cases hc : C ys [] with
    | ok w S2 =>
      rw [hc] at q1
      dsimp only at q1
      split at q1
      · rename_i hfl
        intro v H2 φ2 x2 s2 r2
        obtain ⟨y, s3⟩ := x2.unbare s1
        exact q1 v H2 φ1 y s3 (VR.flat hfl r2)
      · exact q1.elim
    | exc z S2 => rw [hc] at q1; exact q1.elim
    | bad => rw [hc] at q1; exact q1.elim
theorem make_postV {K : PySem.W.Frag} {mg : Str → Option Value} {n : Nat} {M : Addr} {σ : L2.St} {H : Hp} {φ : Fi} {S : Store} {ws ys : List W} {vs : List V} {Q : VK} (hC : Ary n C) (hm : mg c = some (.ref M)) (hf : fzA S ws = some ys) (r : VRs K mg H φ ws vs) (s : SR K mg H φ S)
    (q : PostR K mg Wx (VR K mg) σ H φ Q (match C (.ref 0 :: ys) [.ins c []] with
    | .ok .non (.ins c' fs :: _) => if c' = c ∧ flatWs (fs.map (·.2)) = true then .ok (.ref S.length) (S ++ [.ins c fs]) else .bad
    | _ => .bad)) (x dx : Addr) (hx : H x = none) (hd : H dx = none) (hne : dx ≠ x) : spM K mg n C (.ref x :: vs) (upd (upd H dx (.own x)) x (.ins M dx [])) (fun v H2 => v = .non ∧ Q (.ref x) H2) (WE Wx σ) := by
  obtain ⟨x1, s1⟩ := s.bare.extra (o := .own x) hd
  obtain ⟨x2, s2, l2⟩ := s1.push (q := x) (ob := .ins c []) (o := .ins M dx []) (by rw [upd_ne (Ne.symm hne)]; exact hx) fun H' φ' x' e => ⟨M, dx, [], hm, e, rfl, .nil⟩
  have x12 := x1.trans x2
  have rx : VR K mg (upd (upd H dx (.own x)) x (.ins M dx [])) ⟨φ.bare.t ++ [x], φ.bare.h⟩ (.ref 0) (.ref x) := by simp only [VR]; exact ⟨x, rfl, l2⟩
  refine spM_of (Wx := Wx) (σ := σ) hC (.cons rx ((fzA_ok s hf r).mono x12)) s2 ?_
  have nx := s.notin hx
  show PostR K mg Wx (VR K mg) σ _ _ _ (C (.ref 0 :: ys) [.ins c []])
  split at q
  · rename_i c' fs J hc
    split at q
    · rename_i hcf
      obtain ⟨rfl, hfl⟩ := hcf
      rw [hc]
      intro v H3 φ3 x3 s3 r3
      refine ⟨r3, ?_⟩
      have x13 := x12.trans x3
      obtain ⟨y, sy⟩ := x13.unbare s
      obtain ⟨l, el⟩ := x3.pre
      have e0 : φ3.t[0]? = some x := by rw [el]; rfl
      obtain ⟨C', dx', us, m', hp, kr⟩ := s3.at_ 0 _ x rfl e0
      have last : (φ.t ++ [x])[S.length]? = some x := by rw [← s.len]; simp
      have z : Ext H H3 φ ⟨φ.t ++ [x], φ.h⟩ := ⟨⟨[x], rfl⟩, rfl, y.fr, fun p h n => by
        rcases List.mem_append.mp (show p ∈ φ.t ++ [x] from h) with w | w
        · exact absurd w n
        · rw [List.mem_singleton.mp w]; exact hx, y.tup, y.frz⟩
      refine q (.ref x) H3 ⟨φ.t ++ [x], φ.h⟩ z ?_ (by simp only [VR]; exact ⟨x, rfl, last⟩)
      refine ⟨by simp [s.len], ?_, fun a ob p e q => ?_, s.hidden z⟩
      · exact List.nodup_append.mpr ⟨s.nd, by simp, fun a ha b hb => by
          have : b = x := by simpa using hb
          subst this
          exact fun z => nx.1 (z ▸ ha)⟩
      · by_cases ha : a < S.length
        · rw [List.getElem?_append_left ha] at e
          have e' : φ.t[a]? = some p := by
            have e2 : (φ.t ++ [x])[a]? = some p := q
            rw [List.getElem?_append_left (by rw [s.len]; exact ha)] at e2
            exact e2
          have o := s.at_ a ob p e e'
          refine o.mono z ?_
          cases ob with
          | lst ws => obtain ⟨vs, h, r⟩ := o; rw [h]; exact x13.fr p _ h (by simp [Fi.bare])
          | dic kvs => obtain ⟨us, h, r⟩ := o; rw [h]; exact x13.fr p _ h (by simp [Fi.bare])
          | ins c fs => obtain ⟨C, dx, us, m, h, r⟩ := o; rw [h]; exact x13.fr p _ h (by simp [Fi.bare])
        · have hlt := (List.getElem?_eq_some_iff.mp e).1
          simp at hlt
          have ea : a = S.length := by omega
          subst ea
          have e2 : (φ.t ++ [x])[S.length]? = some p := q
          rw [last] at e2; cases e2
          simp at e
          subst e
          exact ⟨C', dx', us, m', hp, kr.1, VRs.flat hfl kr.2⟩
    · exact q.elim
  · exact q.elim
theorem m_makeV (F : MkOk X.prog X.w X.K X.mg X.base k c ps C) (hr : Room (k + 1) X.A) (tk : Takes X Wx) (hg : Gl X c) (ha : MA X Wx (a :: es) (evs As)) (hdb : (c == ("__debug__" : Str)) = false := by decide) (he : starEach (a :: es) X.env = (false, eval a X.env) :: starEach es X.env := by rfl) (hpl : (backTo pos (starEach es X.env)).any (·.1) = false := by rfl) :
    ME X Wx (.Call (.Name c p) (a :: es) [] pos) (eMakeV c C As) := by
  obtain ⟨M, f, hm, M', fd, F, hb, hk, hC⟩ := F
  refine ⟨fun pins s σ H Q I ⟨e, S, φ, er, sr, q⟩ => ?_⟩
  have h1 : rA X.K X.mg Wx (evs As) σ H (fun vs H1 => ∀ x dx, H1 x = none → H1 dx = none → dx ≠ x → spM X.K X.mg ps.length C (.ref x :: vs) (upd (upd H1 dx (.own x)) x (.ins M dx [])) (fun v H2 => v = .non ∧ Q (.ref x) H2) (WE Wx σ)) :=
    ⟨e, S, φ, er, sr, q.bind fun ws S1 vs H1 φ1 x1 s1 r1 q1 => by
      cases hf : fzA S1 ws with
      | none => rw [hf] at q1; exact q1.elim
      | some ys =>
        rw [hf] at q1
        exact make_postV hC hm hf r1 s1 q1⟩
  refine wpAny_Call_Name_kw (ld_glob I hg hm ?_ hdb)
  refine PySem.W.callWith_K (h₀ := X.base) I.ok.mod.kin M'.kp (thn (ha.run pos pins s σ H _ I h1) fun us s1 ⟨vs, H1, I1, r, q⟩ => ⟨I1.kIn, ?_⟩) he hpl
  exact run_mk M' F hr hb (passAt tk σ) I1 r q
/-! ### a method called with keywords alone -/
def MtKOk (P : Program) (w : World) (K : PySem.W.Frag) (mg : Str → Option Value) (base : Heap) (k : Nat) (c m : Str) (ps ks : List Str) (C : Cal) : Prop := ∃ A f fd, mg c = some (.ref A) ∧ Cls K A ∧ Meth K A m f ∧ FnOk P w K mg base (L2.CX P w) k f fd ps (spM K mg ps.length C) ∧ PySem.W.keepIn K (.ref f) = true ∧ Ary ps.length C ∧
  ∀ (s : Shared) (u : Value) (ws : List Value), 1 + ws.length = ps.length → ws.length = ks.length → BindsTo s fd ⟨[u], ks.zip ws⟩ (ps.zip (u :: ws))
def eMetK (c m : Str) (C : Cal) (o : EM) (ks : List EM) (n : Nat) : EM := fun e S => (o e S).bind fun x S1 => match x with
  | .ref a => match S1[a]? with
    | some (.ins c' fs) => if c' = c ∧ fs.lookup m = none then (evs ks e S1).bind fun ys S2 => if ys.length = n then C (x :: ys) S2 else .bad else .bad
    | _ => .bad
  | _ => .bad
theorem m_metK0 {pl : Sem Bool} {kws : List Keyword} {ks : List Str} {Ks : List EM} (F : MtKOk X.prog X.w X.K X.mg X.base k c m ps ks C) (hr : Room k X.A) (tk : Takes X Wx) (ho : ME X Wx o O) (hkw : MKw X Wx kws (evs Ks))
    (hall : (backToKw pos (keywordEach kws X.env)).all (·.1.isSome) = true := by rfl) (hks : (backToKw pos (keywordEach kws X.env)).filterMap (·.1) = ks := by rfl)
    (hpl : ((backTo pos (starEach [] X.env)).any (·.1) || (backToKw pos (keywordEach kws X.env)).any (·.1.isNone)) = false := by rfl)
    (ht : eval (.Call (.Attribute o m apos) [] kws pos) X.env = (do
      let ov ← eval o X.env
      standAt apos.atName
      let (f, first) ← holding [ov] (getMethod ov m pl)
      callWith pos f first (backTo pos (starEach [] X.env)) (backToKw pos (keywordEach kws X.env))) := by rfl) :
    ME X Wx (.Call (.Attribute o m apos) [] kws pos) (eMetK c m C O Ks ks.length) := by
  obtain ⟨M, f, fd, hm, hc, hmt, F, hk, hC, hb⟩ := F
  refine ⟨fun pins s σ H Q I ⟨e, S, φ, er, sr, q⟩ => ?_⟩
  have h1 : rE X.K X.mg Wx O σ H (fun x H1 => ∃ b dx fs, x = .ref b ∧ H1 b = some (.ins M dx fs) ∧ fs.lookup m = none ∧ rA X.K X.mg Wx (evs Ks) σ H1 fun zs H2 => zs.length = ks.length ∧ spM X.K X.mg ps.length C (x :: zs) H2 Q (WE Wx σ)) := ⟨e, S, φ, er, sr, q.bind fun w S1 v H1 φ1 x1 s1 r1 q1 => by
    cases w with
    | ref b =>
      dsimp only at q1
      split at q1
      · rename_i c' fs e0
        split at q1
        · rename_i hf
          obtain ⟨rfl, hl⟩ := hf
          obtain ⟨p, dx, us, rfl, hp, hn⟩ := met_at s1 r1 e0 hm hl
          exact ⟨p, dx, us, rfl, hp, hn, e, S1, φ1, er.mono x1, s1, q1.bind fun ws S2 vs H2 φ2 x2 s2 r2 q2 => by
            split at q2
            · rename_i hl
              exact ⟨by rw [← r2.length]; exact hl, spM_of hC (.cons (r1.mono x2) r2) s2 q2⟩
            · exact q2.elim⟩
        · exact q1.elim
      · exact q1.elim
    | _ => exact q1.elim⟩
  refine PySem.W.methodCall_KW (pl := pl) (thn (ho.run pins s σ H _ I h1) fun u s1 ⟨x, H1, I1, rx, b, dx, fs, ex, ea, l, q⟩ => ?_) ht
  subst ex
  obtain rfl : u = Value.ref b := rx
  refine getmeth_ok I1 ea hc hmt l ?_
  refine PySem.W.callWith_KW0 (first := [.ref b]) (h₀ := X.base) I.ok.mod.kin hmt.kp hall ?_ hpl
  refine thn (hkw.run pos pins s1 σ H1 _ I1 q) fun ws s2 ⟨zs, H2, I2, rz, hl, q2⟩ => ⟨I2.kIn, ?_⟩
  rw [hks]
  have hz : ws.length = ks.length := by rw [← rz.length]; exact hl
  have hl2 := F.len _ _ _ _ q2
  exact run_kw (us := [.ref b]) (vs := [.ref b]) F hr (hb s2 (.ref b) ws (by rw [← rz.length]; simp at hl2; omega) hz) (passAt tk σ) I2 (.cons rfl .nil) rz q2
end
section
variable {P : Program} {w : World} {K : PySem.W.Frag} {mg : Str → Option Value} {base : Heap} {qual c m : Str} {st : Stmt} {N ps ks : List Str} {k : Nat} {b : SM}
theorem um_okO (h : UM K mg c m qual st) (bi : BI m qual st ps) (S : FnScope N ps (defScope st)) (hB : Bod P w K mg base k N qual (defScope st) (defBody st) b) : MtOk P w K mg base (k + 1) c m ps (runDefO ps.length N.length b) := let ⟨A, f, h1, h2, h3, u⟩ := h; ⟨A, f, h1, h2, h3, by obtain ⟨fd, F⟩ := u; exact def_okO F S (F.bindsN bi) hB⟩
theorem umk_ok0 (h : UM K mg c m qual st) (bk : BK m qual st ps ks) : MtKOk P w K mg base 0 c m ps ks fun _ _ => .bad := by
  obtain ⟨A, f, h1, h2, h3, fd, F⟩ := h
  exact ⟨A, f, fd, h1, h2, h3, ⟨spM_len rfl, fun A outer s H args us vs Q E hr e0 b r ⟨ws, S, φ, _, _, _, q⟩ => q.elim⟩, F.kp, fun _ _ _ => rfl, fun s u ws l1 l2 => bk_to F bk s [u] ws l1 l2⟩
theorem umk_ok (h : UM K mg c m qual st) (bk : BK m qual st ps ks) (S : FnScope N ps (defScope st)) (hB : Bod P w K mg base k N qual (defScope st) (defBody st) b) : MtKOk P w K mg base (k + 1) c m ps ks (runDef ps.length N.length b) := by
  obtain ⟨A, f, h1, h2, h3, fd, F⟩ := h
  exact ⟨A, f, fd, h1, h2, h3, F.ok S (spM_len rfl) (fun cdv A outer s H vs Q E hr h => ⟨_, hB f cdv A outer s H E hr, run_read h⟩), F.kp, ary_run, fun s u ws l1 l2 => bk_to F bk s [u] ws l1 l2⟩
end
/-! ### o[i], o[j] = .. -/
def subV (f : P3) (vo vi : Nat) (e : En) (w : W) (S : Store) : Option Store := match e[vo]?, e[vi]? with
  | some (some o), some (some i) => f o i w S
  | _, _ => none
def gSubs2 (f : P3) (vo vi vo2 vi2 : Nat) : GM := fun w e S => match w with
  | .tup [x, y] => (subV f vo vi e x S).bind fun S1 => (subV f vo2 vi2 e y S1).map fun S2 => (e, S2)
  | _ => none
section
variable {X : Cx} {pos : Pos}
theorem sub_at {f : P3} {t : TSet} {Wx : WX} {vo vi : Nat} {x : W} {vx : V} {e : En} {S S1 : Store} {σ : L2.St} {H : Hp} {φ : Fi} {Q : L2.St → Hp → Prop} (hf : Snd3 X.K X.mg f t) (er : ER X.K X.mg H φ e σ) (s : SR X.K X.mg H φ S) (r : VR X.K X.mg H φ x vx) (h : subV f vo vi e x S = some S1)
    (k : ∀ H1 φ1, Ext H H1 φ φ1 → SR X.K X.mg H1 φ1 S1 → Q σ H1) : gSub (rE X.K X.mg Wx (eVar vo)) (rE X.K X.mg Wx (eVar vi)) t vx σ H Q := by
  unfold subV at h
  split at h
  · rename_i o i ho hi
    refine ⟨e, S, φ, er, s, ?_⟩
    rw [show eVar vo e S = .ok o S by simp [eVar, ho]]
    intro vv H1 φ1 x1 s1 r1
    refine ⟨e, S, φ1, er.mono x1, s1, ?_⟩
    rw [show eVar vi e S = .ok i S by simp [eVar, hi]]
    intro vw H2 φ2 x2 s2 r2
    exact hf o i x S S1 H2 φ2 vv vw vx _ s2 (r1.mono x2) r2 ((r.mono x1).mono x2) h fun H3 φ3 x3 s3 => k H3 φ3 ((x1.trans x2).trans x3) s3
  · cases h
theorem mg_sub2 {f : P3} {t : TSet} {Wx : WX} {o i o2 i2 : Expr} {vo vi vo2 vi2 : Nat} {tp tp2 : Pos} {kt : Nat} (hc : X.calm = true) (ho : ME X Wx o (eVar vo)) (hi : ME X Wx i (eVar vi)) (ho2 : ME X Wx o2 (eVar vo2)) (hi2 : ME X Wx i2 (eVar vi2)) (hs : PSet X t) (hf : Snd3 X.K X.mg f t)
    (ha : ∀ v, assign (.Subscript o i tp) X.env v = (do
      let ov ← holding [v] (eval o X.env)
      let iv ← holding [v, ov] (eval i X.env)
      standAt tp
      holding [v, ov, iv] (setItem ov iv v)
      release [v, ov, iv] []) := by intro _; rfl)
    (ha2 : ∀ v, assign (.Subscript o2 i2 tp2) X.env v = (do
      let ov ← holding [v] (eval o2 X.env)
      let iv ← holding [v, ov] (eval i2 X.env)
      standAt tp2
      holding [v, ov, iv] (setItem ov iv v)
      release [v, ov, iv] []) := by intro _; rfl)
    (hn : (assignEach [.Subscript o i tp, .Subscript o2 i2 tp2] X.env).length = 2 := by rfl) (hst : (assignEach [.Subscript o i tp, .Subscript o2 i2 tp2] X.env).findIdx? (·.1) = none := by rfl)
    (h1 : (assignEach [.Subscript o i tp, .Subscript o2 i2 tp2] X.env).map (·.2) = assign (.Subscript o i tp) X.env :: (assignEach [.Subscript o2 i2 tp2] X.env).map (·.2) := by rfl)
    (h2 : (assignEach [.Subscript o2 i2 tp2] X.env).map (·.2) = assign (.Subscript o2 i2 tp2) X.env :: (assignEach [] X.env).map (·.2) := by rfl) :
    MG X (.Tuple [.Subscript o i tp, .Subscript o2 i2 tp2] kt pos) (gSubs2 f vo vi vo2 vi2) :=
  leG (pg_tup hc (pgs_cons (pg_sub ho hi hs ha) (pgs_cons (pg_sub ho2 hi2 hs ha2) pgs_nil h2) h1) hn hst) fun v σ H Q ⟨w, e, S, φ, e', S', r, er, sr, h, q⟩ => by
    unfold gSubs2 at h
    split at h
    · rename_i x y
      simp only [VR, VRs] at r
      obtain ⟨p, vs, rfl, t, vx, l1, rfl, rx, vy, l2, rfl, ry, rfl⟩ := r
      rw [Option.bind_eq_some_iff] at h
      obtain ⟨S1, e1, h⟩ := h
      rw [Option.map_eq_some_iff] at h
      obtain ⟨S2, e2, h⟩ := h
      cases h
      refine ⟨p, [vx, vy], rfl, t.sq, rfl, vx, [vy], rfl, sub_at hf er sr rx e1 fun H1 φ1 x1 s1 => ?_⟩
      refine ⟨vy, [], rfl, sub_at hf (er.mono x1) s1 (ry.mono x1) e2 fun H2 φ2 x2 s2 => ?_⟩
      exact ⟨rfl, q σ H2 φ2 (x1.trans x2) ((er.mono x1).mono x2) s2⟩
    · cases h
end
def eqTs : List String := ["NoneType", "bool", "int", "str", "tuple", "list", "dict"]
theorem sub_no (K : PySem.W.Frag) (C : Addr) : ∀ a ∈ eqTs, PySem.W.subIn K (.type a) (.ref C) = some false := by
  intro a ha
  simp only [eqTs, List.mem_cons, List.not_mem_nil, or_false] at ha
  rcases ha with rfl | rfl | rfl | rfl | rfl | rfl | rfl <;> rfl
theorem eqOk_of {K : PySem.W.Frag} {mg : Str → Option Value} {it : ITab} (T : IOk K mg it) {c : Str} {n : String} {b : Bool} (h : it.t c n = some b) : EqOk K mg c eqTs := by
  obtain ⟨C, h1, h2, _⟩ := T.t c n b h
  exact ⟨C, h1, h2, sub_no K C⟩
end Sh

set_option Elab.async false
set_option linter.all false
set_option maxRecDepth 100000
set_option maxHeartbeats 4000000
/-! ShW: sets of whole numbers and texts: what is in them, how they are made by a comprehension, their number, their members in order. -/
namespace Sh
open PySem PySem.Spec PyProof.Rows L2
instance keyLaw : LawfulBEq Key where
  eq_of_beq {a b} h := by
    cases a <;> cases b
    · exact congrArg _ (eq_of_beq (α := Int) h)
    · cases h
    · cases h
    · exact congrArg _ (eq_of_beq (α := Str) h)
  rfl {a} := by
    cases a with
    | inl i => exact beq_self_eq_true (α := Int) i
    | inr x => exact beq_self_eq_true (α := Str) x
/-! ### a set's keys -/
def kkey : Value → Key
  | .int i _ => .inl i
  | .str x _ => .inr x
  | _ => .inl 0
theorem kkey_of {k : Key} {v : Value} (h : keyIs k v = true) : kkey v = k := by
  rcases keyIs_shape h with ⟨i, t, rfl, rfl⟩ | ⟨x, t, rfl, rfl⟩ <;> rfl
abbrev keysOf (l : List (Int × Value)) : List Key := l.map fun e => kkey e.2
section
variable {P : Program} {w : World} {A : Around} {E : Value → Shared → Prop} {s : Shared} {a : Addr} {l : List (Int × Value)} {k : Key} {u : Value}
theorem el_key (g : ElemsOf (mixKind P w) l) {e : Int × Value} (he : e ∈ l) : (mixKind P w).is k e.2 = true ↔ kkey e.2 = k := by
  obtain ⟨⟨k0, h0, _⟩, _⟩ := g e he
  have h0 : keyIs k0 e.2 = true := h0
  rw [kkey_of h0]
  constructor
  · intro h; exact (kkey_of h0).symm.trans (kkey_of h)
  · rintro rfl; exact h0
theorem el_mem (g : ElemsOf (mixKind P w) l) : k ∈ keysOf l ↔ ∃ e ∈ l, (mixKind P w).is k e.2 = true := by
  rw [List.mem_map]
  exact ⟨fun ⟨e, he, q⟩ => ⟨e, he, (el_key g he).mpr q⟩, fun ⟨e, he, q⟩ => ⟨e, he, (el_key g he).mp q⟩⟩
/-- the set at a has these keys, each once; it can be walked -/
structure KySet (P : Program) (w : World) (h : Heap) (a : Addr) (ks : List Key) (o : Obj) (es : Array (Int × Value)) (ep : Nat) (t : SetTable) : Prop where
  ob : h.get? a = some o
  ex : o.ExactSet
  da : o.data = .set es ep t
  el : ElemsOf (mixKind P w) es.toList
  pm : (keysOf es.toList).Perm ks
  nd : ks.Nodup
  sc : es.size < scanBound
  ft : t.fits es.size = true
  rs : Ris t.place.toList
  ld : w.params.followText "set-order" = true ∨ t.led = true
def Ky (P : Program) (w : World) (h : Heap) (a : Addr) (ks : List Key) : Prop := ∃ o es ep t, KySet P w h a ks o es ep t
theorem Ky.at_ {h h' : Heap} {ks : List Key} (K : Ky P w h a ks) (q : ∀ o, h.get? a = some o → h'.get? a = some o) : Ky P w h' a ks := by
  obtain ⟨o, es, ep, t, K⟩ := K
  exact ⟨o, es, ep, t, { K with ob := q o K.ob }⟩
theorem KySet.size {h : Heap} {ks : List Key} {o : Obj} {es : Array (Int × Value)} {ep : Nat} {t : SetTable} (K : KySet P w h a ks o es ep t) : es.size = ks.length := by
  rw [← K.pm.length_eq, List.length_map, Array.length_toList]
theorem KySet.mem {h : Heap} {ks : List Key} {o : Obj} {es : Array (Int × Value)} {ep : Nat} {t : SetTable} (K : KySet P w h a ks o es ep t) : k ∈ ks ↔ ∃ e ∈ es.toList, (mixKind P w).is k e.2 = true :=
  K.pm.mem_iff.symm.trans (el_mem K.el)
theorem KySet.setOf {h : Heap} {ks : List Key} {o : Obj} {es : Array (Int × Value)} {ep : Nat} {t : SetTable} (K : KySet P w h a ks o es ep t) : h.SetOf (mixKind P w) a (fun k => decide (k ∈ ks)) ks.length :=
  ⟨o, es, ep, t, K.ob, K.ex, K.da, K.el, fun k => by rw [decide_eq_true_eq]; exact K.mem, K.sc, K.ft, K.size⟩
theorem Ky.setOf {h : Heap} {ks : List Key} (K : Ky P w h a ks) : h.SetOf (mixKind P w) a (fun k => decide (k ∈ ks)) ks.length := by
  obtain ⟨_, _, _, _, K⟩ := K; exact K.setOf
/-- the store of a set's new elements -/
theorem KySet.put {ks ks' : List Key} {o : Obj} {es es' : Array (Int × Value)} {ep : Nat} {t t' : SetTable} (K : KySet P w s.heap a ks o es ep t) (el : ElemsOf (mixKind P w) es'.toList) (pm : (keysOf es'.toList).Perm ks') (nd : ks'.Nodup) (sc : es'.size < scanBound)
    (ft : t'.fits es'.size = true) (rs : Ris t'.place.toList) (ld : w.params.followText "set-order" = true ∨ t'.led = true) {Q : Unit → Shared → Prop}
    (q : KySet P w (s.heap.update a (Obj.putSet es' t')) a ks' { o with data := .set es' (ep + 1) t' } es' (ep + 1) t' → Heap.SameBut a s.heap (s.heap.update a (Obj.putSet es' t')) → Q () { s with heap := s.heap.update a (Obj.putSet es' t') }) :
    wpAny (model P w) A (storeSet a es' t') Q E s :=
  wpAny_storeSet_of K.ob K.da (q ⟨store_at K.ob K.da, K.ex, rfl, el, pm, nd, sc, ft, rs, ld⟩ (Heap.SameBut.update s.heap a _)) (fits_of_scanBound sc)
theorem gave_ok (b : Bool) {s : Shared} {Q : Unit → Shared → Prop} (q : Q () s) : wpAny (model P w) A (match b with | true => rule "set.scan.the-table-gave-way" | false => pure ()) Q E s := by
  cases b
  · exact wpAny_pure q
  · exact wpAny_rule q
/-- what is done behind the search: laid, and laid anew where it is too full -/
theorem ky_lay {g : Bool → Sem Unit} (hg : ∀ (b : Bool) (s : Shared) (Q : Unit → Shared → Prop), Q () s → wpAny (model P w) A (g b) Q E s) {ks ks' : List Key} {o : Obj} {es es' : Array (Int × Value)} {ep : Nat} {t t' : SetTable} (K : KySet P w s.heap a ks o es ep t)
    (el : ElemsOf (mixKind P w) es'.toList) (pm : (keysOf es'.toList).Perm ks') (nd : ks'.Nodup) (sc : es'.size < scanBound) (ft : t'.fits es'.size = true) (rs : Ris t'.place.toList) (ld : w.params.followText "set-order" = true ∨ t'.led = true) {d : Bool} {Q : Option Bool → Shared → Prop}
    (q : ∀ h', Heap.SameBut a s.heap h' → Ky P w h' a ks' → Q (some true) { s with heap := h' }) :
    wpAny (model P w) A (do
      storeSet a es' t'
      if (!d && t'.tooFull) = true then do
        g (relayAll t' es' (SetTable.grown es'.size)).2.2
        storeSet a (relayAll t' es' (SetTable.grown es'.size)).1 (relayAll t' es' (SetTable.grown es'.size)).2.1
        pure (some true)
      else pure (some true)) Q E s := by
  refine wpAny_bind (K.put el pm nd sc ft rs ld fun K1 b1 => ?_)
  split
  · have p2 := relayAll_perm t' es' (SetTable.grown es'.size)
    have n2 : (relayAll t' es' (SetTable.grown es'.size)).1.size = es'.size := by rw [← Array.length_toList, p2.length_eq, Array.length_toList]
    refine wpAny_bind (hg _ _ _ (wpAny_bind (KySet.put (s := { s with heap := s.heap.update a (Obj.putSet es' t') }) K1 (el.perm p2) ((p2.map fun e => kkey e.2).trans pm) nd (by rw [n2]; exact sc) (relayAll_fits _ _ _) (relayAll_ris _ _ _) (ld.imp id fun z => (relayAll_led _ _ _).trans z) fun K2 b2 => wpAny_pure ?_)))
    exact q _ (b1.trans b2) ⟨_, _, _, _, K2⟩
  · exact wpAny_pure (q _ b1 ⟨_, _, _, _, K1⟩)
theorem ky_hashed {ks : List Key} {Q : Bool → Shared → Prop} (hk : keyIs k u = true) (hs : u.scannable = true) (K : Ky P w s.heap a ks) (room : ks.length + 1 < scanBound)
    (q : ∀ (b : Bool) (h' : Heap), Heap.SameBut a s.heap h' → Ky P w h' a (if k ∈ ks then ks else ks ++ [k]) → Q b { s with heap := h' }) :
    wpAny (model P w) A (setAddHashed a u ((mixKind P w).hash k)) Q E s := by
  obtain ⟨o, es, ep, t, K⟩ := K
  have hkey : (mixKind P w).is k u = true := hk
  unfold setAddHashed setAddHashedIn
  refine wpAny_holding (wpAny_bind (wpAny_setState_of K.ob K.da K.ft ?_))
  dsimp only
  rw [if_pos (byScan_of hs K.sc K.el)]
  refine wpAny_bind ?_
  unfold setAddByScan
  refine wpAny_bind (wpAny_rule (wpAny_bind (wpAny_setScan_of hkey K.ob K.da K.ft K.el ?_)))
  cases hf : es.toList.findIdx? fun e => (mixKind P w).is k e.2 with
  | some j =>
    obtain ⟨hj, pj, _⟩ := List.findIdx?_eq_some_iff_getElem.mp hf
    have hin : k ∈ ks := K.mem.mpr ⟨_, List.getElem_mem hj, pj⟩
    have r := q false s.heap (Heap.SameBut.refl a s.heap) (by rw [if_pos hin]; exact ⟨o, es, ep, t, K⟩)
    exact wpAny_pure (wpAny_pure r)
  | none =>
    have hout : k ∉ ks := fun z => by
      obtain ⟨e, he, c⟩ := K.mem.mp z
      have := List.findIdx?_eq_none_iff.mp hf e he
      rw [c] at this
      cases this
    rw [if_neg hout] at q
    have pe := layNew_perm t es ((mixKind P w).hash k) u
    rw [Array.toList_push] at pe
    have el := (K.el.push hkey hs).perm pe
    have pk : (keysOf (layNew t es ((mixKind P w).hash k) u).1.toList).Perm (ks ++ [k]) := (pe.map fun e => kkey e.2).trans (by
      rw [List.map_append]
      have e1 : kkey u = k := kkey_of hk
      simp only [List.map_cons, List.map_nil, e1]
      exact K.pm.append_right [k])
    have nd : (ks ++ [k]).Nodup := List.nodup_append.mpr ⟨K.nd, by simp, fun x hx y hy => by
      rw [List.mem_singleton.mp hy]
      rintro rfl
      exact hout hx⟩
    have sz : (layNew t es ((mixKind P w).hash k) u).1.size < scanBound := by
      rw [← Array.length_toList, pe.length_eq, List.length_append, Array.length_toList, K.size]
      exact room
    have ft := layNew_fits t es ((mixKind P w).hash k) u
    have rs := layNew_ris t es ((mixKind P w).hash k) u K.rs
    have ld : w.params.followText "set-order" = true ∨ (layNew t es ((mixKind P w).hash k) u).2.1.led = true := K.ld.imp id fun z => (layNew_led t es ((mixKind P w).hash k) u).trans z
    generalize layNew t es ((mixKind P w).hash k) u = L at el pk sz ft rs ld ⊢
    obtain ⟨es', t', d, gv⟩ := L
    dsimp only at el pk sz ft rs ld ⊢
    refine wpAny_bind (gave_ok gv ?_)
    have fin : ∀ h', Heap.SameBut a s.heap h' → Ky P w h' a (ks ++ [k]) → wpAny (model P w) A (match (some true : Option Bool) with | some added => pure added | none => setAddHashedIn a u ((mixKind P w).hash k) 99999) Q E { s with heap := h' } := fun h' b z => wpAny_pure (q true h' b z)
    split
    · rw [hashByValue_scannable 8 hs]
      refine wpAny_bind (wpAny_pure ?_)
      have ft2 : (if plainKind u = true then t' else { t' with plain := false }).fits es'.size = true := by
        split
        · exact ft
        · exact SetTable.fits_plain_off ft
      have rs2 : Ris (if plainKind u = true then t' else { t' with plain := false }).place.toList := by split <;> exact rs
      have ld2 : w.params.followText "set-order" = true ∨ (if plainKind u = true then t' else { t' with plain := false }).led = true := by split <;> exact ld
      exact ky_lay (fun b s Q h => gave_ok b h) K el pk nd sz ft2 rs2 ld2 fin
    · refine wpAny_bind (wpAny_pure ?_)
      exact ky_lay (fun b s Q h => gave_ok b h) K el pk nd sz ft rs ld fin
/-- a set's new key -/
theorem ky_add {ks : List Key} {Q : Value → Shared → Prop} (hk : keyIs k u = true) (hs : u.scannable = true) (K : Ky P w s.heap a ks) (room : ks.length + 1 < scanBound)
    (q : ∀ h', Heap.SameBut a s.heap h' → Ky P w h' a (if k ∈ ks then ks else ks ++ [k]) → Q .none { s with heap := h', toks := s.toks + 1 }) :
    wpAny (model P w) A (call (.builtin "set.add") [.ref a, u]) Q E s := by
  refine wpAny_call_entry F.slot_set_add K.setOf.typeIs F.entry_set_add ?_ (F.args_set_add_2 _ _)
  unfold Builtin.«set.add» Builtin.Frozenset.oneOther Builtin.Frozenset.addrOf setAdd
  simp only [List.isEmpty_nil, bind_assoc]
  refine wpAny_bind (wpAny_pure (wpAny_bind (wpAny_pure (wpAny_bind (wpAny_holding (wpAny_bind ((mixKind P w).pyHash (show (mixKind P w).is k u = true from hk) ?_)))))))
  exact ky_hashed (s := { s with toks := s.toks + 1 }) hk hs K room fun b h' sb z => wpAny_pure ⟨_, rfl, q h' sb z⟩
theorem ky_fresh {h : Heap} : Ky P w (h.push { cls := .type "set", dict := none, data := .set #[] 0 (.fresh 0 0 (!w.params.followText "set-order")) }) h.objs.size [] := by
  refine ⟨_, #[], 0, _, ⟨Heap.get?_push_size _ rfl, ⟨rfl, rfl, rfl⟩, rfl, fun e he => by simp at he, List.Perm.refl _, List.nodup_nil, by decide, rfl, List.Pairwise.nil, ?_⟩⟩
  show _ ∨ (!w.params.followText "set-order") = true
  cases w.params.followText "set-order" <;> simp
end
/-! ### as tracked things -/
def KyO (P : Program) (w : World) (a : Addr) (ks : List Key) : HO := .ext fun h => Ky P w h a ks
theorem ky_new {P : Program} {w : World} {H : Hp} {h : Heap} {a : Addr} {ks : List Key} (K : Ky P w h a ks) : ObjOk P w H h a (KyO P w a ks) := by
  have ⟨o, _, _, _, k⟩ := K
  exact ⟨K, ⟨o, k.ob⟩, fun h1 h2 p q => Ky.at_ p q⟩
section
variable {X : Cx} {pins : List (Addr × Obj)} {σ : L2.St} {H : Hp} {s : Shared} {D : Addr} {ks : List Key}
theorem ky_get (I : Inv X pins σ H s) (h : H D = some (KyO X.prog X.w D ks)) : Ky X.prog X.w s.heap D ks := (I.hok D _ h).1
theorem ky_put {E : Value → Shared → Prop} {Q : Value → Shared → Prop} {k : Key} {u : Value} (I : Inv X pins σ H s) (h : H D = some (KyO X.prog X.w D ks)) (r : RelV (kV k) u) (room : ks.length + 1 < scanBound)
    (q : ∀ s', Inv X pins σ (upd H D (KyO X.prog X.w D (if k ∈ ks then ks else ks ++ [k]))) s' → Q .none s') : wpAny (model X.prog X.w) X.A (call (.builtin "set.add") [.ref D, u]) Q E s :=
  ky_add (kV_is (P := X.prog) (w := X.w) r) (key_scan r) (ky_get I h) room fun h' sb z => by
    have ⟨o, _, _, _, z'⟩ := z
    exact q _ (I.write (e := D) (t' := s.toks + 1) (by rw [h]; trivial) (.inl rfl) (fun b u hb hu => (sb.2 b hb).trans hu) ⟨o, z'.ob⟩ (ky_new z))
end
end Sh

set_option Elab.async false
set_option linter.all false
set_option maxRecDepth 100000
set_option maxHeartbeats 4000000
/-! ShN: set comprehensions of whole numbers and texts. -/
namespace Sh
open PySem PySem.Spec PyProof.Rows L2
/-- {e for t in it if ..}: D the new set, its keys in the order in which they came -/
def tSk (P : Program) (w : World) (wi : TI) (g : TG) (tt : TT) (te : TE) (vs : List Nat) : TE := fun σ H Q => wi σ H fun J H1 => ∀ D, H1 D = none → ∃ R : Nat → Nat → Hp → Prop, (∃ m, R 0 m (upd H1 D (KyO P w D []))) ∧ ∀ i m H, R i m H →
  (J.stop i H ∧ Q (.ref D) H) ∨ (J.go i H ∧ ∃ Nx : Hp → Prop, (∀ H', Nx H' → ∃ m', m' < m ∧ R (i + 1) m' H') ∧ ∀ x H', J.yld i H x H' → g x (wipe σ vs) H' fun σ2 H2 => wipe σ2 vs = wipe σ vs ∧ tt σ2 H2 fun b H3 =>
    if b = true then te σ2 H3 fun y H4 => ∃ (k : Key) (ks : List Key), y = kV k ∧ H4 D = some (KyO P w D ks) ∧ ks.length + 1 < scanBound ∧ Nx (upd H4 D (KyO P w D (if k ∈ ks then ks else ks ++ [k]))) else Nx H3)
section
variable {X : Cx} {elt tg iter : Expr} {ifs : List Expr} {scope : Scope} {own : List (PySem.Str × Nat)} {pos : Pos} {wi : TI} {g : TG} {tt : TT} {te : TE}
/-- the set stands new beside what was -/
theorem sk_open {pins : List (Addr × Obj)} {σ : L2.St} {H : Hp} {s : Shared} (I : Inv X pins σ H s) :
    Inv X pins σ (upd H s.heap.objs.size (KyO X.prog X.w s.heap.objs.size [])) { s with heap := s.heap.push { cls := .type "set", dict := none, data := .set #[] 0 (.fresh 0 0 (!X.w.params.followText "set-order")) } } :=
  I.laid (t' := s.toks) (fun _ _ e => Heap.get?_push_of_some _ e) (Nat.le_refl _) (ky_new ky_fresh)
theorem ky_szB {P : Program} {w : World} {h : Heap} {a : Addr} {ks : List Key} (K : Ky P w h a ks) : SzAt h a ks.length := by
  obtain ⟨o, es, ep, t, K⟩ := K
  exact ⟨o, es, ep, t, K.ob, K.ex, K.da, K.ft, K.sc, K.size⟩
theorem sz_newB {P : Program} {w : World} {H : Hp} {h : Heap} {a : Addr} {n : Nat} (K : SzAt h a n) : ObjOk P w H h a (SzO a n) := by
  have ⟨o, _, _, _, ho, _⟩ := K
  exact ⟨K, ⟨o, ho⟩, fun h1 h2 p q => by
    obtain ⟨o, es, ep, t, ho, r⟩ := p
    exact ⟨o, es, ep, t, q o ho, r⟩⟩
theorem sk_core {pins : List (Addr × Obj)} {s : Shared} {σ : L2.St} {H : Hp} {Q : VK} {pos' : Pos} {use : Option (Value → Sem Unit)} {Qf : Value → Shared → Prop} (hc : X.calm = true) (hN : X.N.Nodup) (I : Inv X pins σ H s) (hi : PI X tg iter wi) (ok : BlkOk X.N X.env.scope scope own)
    (hg : ∀ (s : Shared) (H : Hp) (C : Addr) (cl : List (PySem.Str × Addr)) (fp : List Addr), PG (X.blk s H scope (compEnvC scope cl C X.env) fp) tg g)
    (ht : ∀ (s : Shared) (H : Hp) (C : Addr) (cl : List (PySem.Str × Addr)) (fp : List Addr), PTs (X.blk s H scope (compEnvC scope cl C X.env) fp) ifs tt)
    (he : ∀ (s : Shared) (H : Hp) (C : Addr) (cl : List (PySem.Str × Addr)) (fp : List Addr), PE (X.blk s H scope (compEnvC scope cl C X.env) fp) elt te) (hs : ∀ x, foldedSetIterable iter X.env x = pure x)
    (h : tSk X.prog X.w wi g tt te (own.map (·.2)) σ H Q)
    (hRR : ∀ D C s' m H', Inv X pins σ H' s' → Q (.ref D) H' → s'.heap.Ns C m → FpOk X pins H' C → compPost (model X.prog X.w) X.A X.xe use Qf (.ref D) C (.ok .next) s') :
    wpAny (model X.prog X.w) X.A (comprehension (.SetComp elt [⟨tg, iter, ifs, 0⟩] scope pos) scope X.env pos' (newSet (.type "set")) false (eval iter X.env) use) Qf X.xe s := by
  have free : ∀ y ∈ scope.names, y.2 = .free → ∃ c, X.env.cells.lookup y.1 = some c := fun y hy e => (ok.free y hy e).elim (fun z => I.ok.has _ (.inl z)) fun z => I.ok.has _ (.inr z)
  refine wpAny_comprehension_free (use := use) rfl hs (closure_ok free) ok.kind (fun y hy e => by rw [ok.uniq y hy, e]) (thn (hi.run pins s σ H _ I h) fun _ _ h1 => thn h1 fun _ sI ⟨it, fp, tn, J, HI, ei, II, T, stI, fpI, q⟩ => ?_)
  subst ei
  obtain ⟨R, ⟨m0, r0⟩, turn⟩ := q sI.heap.objs.size (II.hok.fresh (Nat.le_refl _))
  refine PpSet.newSet_ok (newEnv_comp ?_)
  have IO := sk_open II
  have low : ∀ b ∈ fp, b < sI.heap.objs.size := fun b hb => let ⟨_, e, _⟩ := T.obj _ _ stI b hb; Heap.lt_size e
  generalize sI.heap.objs.size = D at r0 turn IO low ⊢
  generalize hO : ({ sI with heap := sI.heap.push { cls := .type "set", dict := none, data := .set #[] 0 (.fresh 0 0 (!X.w.params.followText "set-order")) } } : Shared) = sO at IO ⊢
  have hO2 : sO.heap = sI.heap.push { cls := .type "set", dict := none, data := .set #[] 0 (.fresh 0 0 (!X.w.params.followText "set-order")) } := by rw [← hO]
  have keepO : ∀ b o, sI.heap.get? b = some o → sO.heap.get? b = some o := fun b o e => by rw [hO2]; exact Heap.get?_push_of_some _ e
  have fpO : ∀ b ∈ fp, FpOk X pins (upd HI D (KyO X.prog X.w D [])) b ∧ b < sO.heap.objs.size := fun b hb =>
    ⟨⟨by rw [upd_ne (Nat.ne_of_lt (low b hb))]; exact (fpI b hb).1, (fpI b hb).2⟩, let ⟨_, e, _⟩ := T.obj _ _ stI b hb; Heap.lt_size (keepO b _ e)⟩
  have stO : tn 0 sO.heap := T.keep _ _ _ stI fun b _ o e => keepO b o e
  have IB := block_start IO ok hN fpO
  have hg := hg sO (upd HI D (KyO X.prog X.w D [])) sO.heap.objs.size (cellsFrom (sO.heap.objs.size + 1) scope.names (cloFrom X.env.cells scope.names [])) fp
  have ht := ht sO (upd HI D (KyO X.prog X.w D [])) sO.heap.objs.size (cellsFrom (sO.heap.objs.size + 1) scope.names (cloFrom X.env.cells scope.names [])) fp
  have he := he sO (upd HI D (KyO X.prog X.w D [])) sO.heap.objs.size (cellsFrom (sO.heap.objs.size + 1) scope.names (cloFrom X.env.cells scope.names [])) fp
  show codeAny _ _ (.compStart _ 0 (.ref it) (.ref D) (compEnvC scope (cellsFrom (sO.heap.objs.size + 1) scope.names (cloFrom X.env.cells scope.names [])) sO.heap.objs.size X.env)) (compPost _ X.A X.xe use Qf (.ref D) sO.heap.objs.size) _
  generalize hce : compEnvC scope (cellsFrom (sO.heap.objs.size + 1) scope.names (cloFrom X.env.cells scope.names [])) sO.heap.objs.size X.env = ce at IB hg ht he ⊢
  have hloc : ce.locals = sO.heap.objs.size := by rw [← hce]; rfl
  generalize upd HI D (KyO X.prog X.w D []) = HO at r0 IO fpO IB hg ht he
  generalize hB : X.blk sO HO scope ce fp = B at IB hg ht he
  have bare : ∀ {σ' : L2.St} {H' : Hp} {s' : Shared}, Inv B [] σ' H' s' → (∀ b ∈ fp, H' b = none) → ∀ b ∈ fp, FpOk B [] H' b := by
    subst hB
    exact fun I' n b hb => ⟨n b hb, (I'.ok.exf b hb).1, I'.ok.exfs b hb, .inl hb, fun x c e => (I'.ok.exf b hb).2 x c e, fun p hp => absurd (show p ∈ ([] : List (Addr × Obj)) ++ [] from hp) (by simp)⟩
  generalize hE : ({ sO with heap := pushCells (sO.heap.push { cls := .type "dict", data := .dict #[] }) scope.names } : Shared) = sE at IB ⊢
  have stE : tn 0 sE.heap := T.keep _ _ _ stO fun b _ o e => by rw [← hE]; exact pushCells_keeps _ _ _ _ (Heap.get?_push_of_some _ e)
  have loop : codeAny (model X.prog X.w) X.A (.compLoop (.SetComp elt [⟨tg, iter, ifs, 0⟩] scope pos) 0 (.ref it) (.ref D) ce) (compPost (model X.prog X.w) X.A X.xe use Qf (.ref D) sO.heap.objs.size) sE := by
    refine PpSet.compLoopS_any (fun n s' => ∃ i H', Inv B [] (wipe σ (own.map (·.2))) H' s' ∧ tn i s'.heap ∧ (∀ b ∈ fp, H' b = none) ∧ R i n H') ?_ m0 ⟨0, HO, IB, stE, fun b hb => (fpO b hb).1.1, r0⟩
    rintro n s1 ⟨i, H1, I1, st1, n1, r1⟩
    have hw : B.prog = X.prog ∧ B.w = X.w ∧ B.K = X.K ∧ B.calm = true ∧ B.A = X.A := by subst hB; exact ⟨rfl, rfl, rfl, hc, rfl⟩
    have hx : B.xe = fun _ _ => False := by subst hB; rfl
    rcases turn i n H1 r1 with ⟨stop, fin⟩ | ⟨go, Nx, hNx, step⟩
    · have td := T.done B (by subst hB; rfl) (by subst hB; rfl) (by subst hB; rfl) hw.2.2.2.1 i [] s1 _ H1 (fun _ _ => False) I1 (bare I1 n1) st1 stop
      rw [hw.2.2.2.2] at td
      refine thnF td fun r s2 ⟨hr, I2⟩ => ?_
      subst hr
      have I3 : Inv X pins σ H1 s2 := by
        subst hB
        exact IO.call' (ch := fp) I2.os I2.base I2.hok I2.bare fun b hb => ⟨(fpO b hb).1.2.2.2.1, (fpO b hb).1.2.1, (fpO b hb).1.2.2.2.2.1, (fpO b hb).1.2.2.2.2.2⟩
      have hfree : H1 sO.heap.objs.size = none := by
        have z : H1 B.env.locals = none := I2.free
        have e : B.env.locals = ce.locals := by subst hB; rfl
        rw [e, hloc] at z
        exact z
      obtain ⟨m, hm⟩ : ∃ m, s2.heap.Ns sO.heap.objs.size m := by
        obtain ⟨m, z, _⟩ := I2.loc
        have e : B.env.locals = ce.locals := by subst hB; rfl
        rw [e, hloc] at z
        exact ⟨m, z⟩
      exact hRR D _ s2 m H1 I3 fin hm (IO.fpOk (H' := H1) (Nat.le_refl _) hfree)
    · have ti := T.item B (by subst hB; rfl) (by subst hB; rfl) (by subst hB; rfl) hw.2.2.2.1 i [] s1 _ H1 (fun _ _ => False) I1 (bare I1 n1) st1 go
      rw [hw.2.2.2.2] at ti
      refine thnF ti fun r s2 ⟨u, hr, h2⟩ => ?_
      subst hr
      refine thnF h2 fun _ s3 ⟨x, H3, I3, r3, y3, st3, n3⟩ => ?_
      have J3 := I3.pinned (bare I3 n3) (T.obj _ _ st3)
      have ga := hg.run _ s3 _ H3 x u _ J3 r3 (step x H3 y3)
      have henv : B.env = ce := by subst hB; rfl
      rw [hw.1, hw.2.1, hw.2.2.2.2, henv, hx] at ga
      refine thnF ga fun _ s4 ⟨σ4, H4, I4, e4, q4⟩ => ?_
      have ta := ht.run _ s4 σ4 H4 _ I4 q4
      rw [hw.1, hw.2.1, hw.2.2.2.2, henv, hx] at ta
      refine thnF ta fun b s5 ⟨H5, I5, q5⟩ => ?_
      have next : ∀ {s' : Shared} {H' : Hp}, Inv B ([] ++ pinsAt fp s3.heap) σ4 H' s' → Nx H' → ∃ m, m < n ∧ ∃ i H', Inv B [] (wipe σ (own.map (·.2))) H' s' ∧ tn i s'.heap ∧ (∀ b ∈ fp, H' b = none) ∧ R i m H' := fun {s' H'} I' nx => by
        obtain ⟨m', hm, r'⟩ := hNx H' nx
        have pin : ∀ b ∈ fp, ∀ o, s3.heap.get? b = some o → s'.heap.get? b = some o ∧ H' b = none := fun b hb o e =>
          have z := I'.pin (b, o) (List.mem_append_right _ (List.mem_append_right _ (mem_pinsAt hb e)))
          ⟨z.1, z.2.1⟩
        have hlen : (wipe σ (own.map (·.2))).length = σ4.length := by rw [← e4, wipe_length]
        exact ⟨m', hm, i + 1, H', (I'.unpinned (pins := [])).weak hlen (fun j v e => by rw [← e4] at e; exact (wipe_some e).1), T.keep _ _ _ st3 fun b hb o e => (pin b hb o e).1, fun b hb => let ⟨o, e, _⟩ := T.obj _ _ st3 b hb; (pin b hb o e).2, r'⟩
      cases b with
      | false =>
        rw [if_neg Bool.false_ne_true] at q5 ⊢
        exact next I5 q5
      | true =>
        rw [if_pos rfl] at q5 ⊢
        have ea := he.run _ s5 σ4 H5 _ I5 q5
        rw [hw.1, hw.2.1, hw.2.2.2.2, henv, hx] at ea
        refine thnF ea fun v s6 ⟨yv, H6, I6, r6, k, ks, ek, hD, room, nx⟩ => ?_
        subst ek
        have hD : H6 D = some (KyO B.prog B.w D ks) := by rw [hw.1, hw.2.1]; exact hD
        have nx : Nx (upd H6 D (KyO B.prog B.w D (if k ∈ ks then ks else ks ++ [k]))) := by rw [hw.1, hw.2.1]; exact nx
        rw [← hw.1, ← hw.2.1, ← hw.2.2.2.2]
        exact ky_put I6 hD r6 room fun s' I' => next I' nx
  exact PpSet.codeAny_compStart_set loop (T.self X.A 0 _ _ _ stE loop)
theorem pe_sk (hc : X.calm = true) (hN : X.N.Nodup) (hi : PI X tg iter wi) (ok : BlkOk X.N X.env.scope scope own)
    (hg : ∀ (s : Shared) (H : Hp) (C : Addr) (cl : List (PySem.Str × Addr)) (fp : List Addr), PG (X.blk s H scope (compEnvC scope cl C X.env) fp) tg g)
    (ht : ∀ (s : Shared) (H : Hp) (C : Addr) (cl : List (PySem.Str × Addr)) (fp : List Addr), PTs (X.blk s H scope (compEnvC scope cl C X.env) fp) ifs tt)
    (he : ∀ (s : Shared) (H : Hp) (C : Addr) (cl : List (PySem.Str × Addr)) (fp : List Addr), PE (X.blk s H scope (compEnvC scope cl C X.env) fp) elt te) (hs : ∀ x, foldedSetIterable iter X.env x = pure x := by intro _; rfl) :
    PE X (.SetComp elt [⟨tg, iter, ifs, 0⟩] scope pos) (tSk X.prog X.w wi g tt te (own.map (·.2))) := ⟨fun pins s σ H Q I h => by
  rw [PpSet.eval_SetComp]
  refine sk_core (use := none) (Qf := EP X pins σ Q) hc hN I hi ok hg ht he hs h fun D C s' m H' I' q hn f => ?_
  obtain ⟨f0, f1, f2, f3, f4, f5⟩ := f
  exact ⟨m, hn, fun h2 sb => ⟨.ref D, H', I'.turned (t' := s'.toks) (fun b o hb e => (sb.2 b hb).trans e) f0 f1 f3 f4 f5, rfl, q⟩⟩⟩
theorem sw_trueS {elt : Expr} {gs : List Comprehension} {scope : Scope} {pos py : Pos} {y : PySem.Str} {l : Nat} {env : Env} (hk : env.scope.kind = .function) (hy : env.scope.names.lookup y = some .local) (hl : (py.line == pos.line) = true)
    (ha : (scope.names.any fun (n, k) => n == y && (k == .local || k == .cell)) = false) : swapsWith (.SetComp elt gs scope pos) (some (.Name y py)) l env = pure true := by
  have ky : env.kindOf y = some .local := hy
  have hb : env.blockKind = .function := by unfold Env.blockKind; rw [hk]; rfl
  unfold swapsWith
  simp only [hb, ky, ha, Expr.pos, hl]
  rfl
/-- y = {e for ..}: the turn that the set takes is told by the model behind -/
theorem ps_setSk {i : Nat} {y : PySem.Str} {py spos : Pos} (hc : X.calm = true) (hN : X.N.Nodup) (hy : X.N[i]? = some y) (hyl : X.env.scope.names.lookup y = some .local)
    (hsw : swapsWith (.SetComp elt [⟨tg, iter, ifs, 0⟩] scope pos) (some (.Name y py)) spos.line X.env = pure true) (hi : PI X tg iter wi) (ok : BlkOk X.N X.env.scope scope own)
    (hg : ∀ (s : Shared) (H : Hp) (C : Addr) (cl : List (PySem.Str × Addr)) (fp : List Addr), PG (X.blk s H scope (compEnvC scope cl C X.env) fp) tg g)
    (ht : ∀ (s : Shared) (H : Hp) (C : Addr) (cl : List (PySem.Str × Addr)) (fp : List Addr), PTs (X.blk s H scope (compEnvC scope cl C X.env) fp) ifs tt)
    (he : ∀ (s : Shared) (H : Hp) (C : Addr) (cl : List (PySem.Str × Addr)) (fp : List Addr), PE (X.blk s H scope (compEnvC scope cl C X.env) fp) elt te) (hs : ∀ x, foldedSetIterable iter X.env x = pure x := by intro _; rfl) :
    PS X (.Assign [.Name y py] (.SetComp elt [⟨tg, iter, ifs, 0⟩] scope pos) spos) (fun D σ H => tSk X.prog X.w wi g tt te (own.map (·.2)) σ H fun x H1 => ∃ a ks, x = .ref a ∧ H1 a = some (KyO X.prog X.w a ks) ∧ gName i x σ (upd H1 a (SzO a ks.length)) D.nx) := by
  refine ⟨fun pins s σ H D I h => ?_⟩
  rw [exec_Assign_Name_used _ _ _ _ hsw]
  refine wpAny_bind (wpAny_standAt (wpAny_bind ?_))
  show wpAny _ X.A (do let _ ← comprehension (.SetComp elt [⟨tg, iter, ifs, 0⟩] scope pos) scope X.env (firstIterPos [⟨tg, iter, ifs, 0⟩] pos) (newSet (.type "set")) false (eval iter X.env) (some (assign (.Name y py) X.env))) _ _ s
  refine wpAny_bind (thn (sk_core (Qf := fun _ s' => SP X pins D .next s') hc hN I hi ok hg ht he hs h fun L C s' m H' I' q hn f => ?_) fun _ s' hq => wpAny_pure (wpAny_pure hq))
  obtain ⟨a, ks, ea, hD, q⟩ := q
  cases ea
  show wpAny _ _ (assign (.Name y py) X.env (.ref L)) _ _ _
  have K := ky_get I' hD
  have ⟨ob, _, _, _, kk⟩ := K
  have I1 : Inv X pins σ (upd H' L (SzO L ks.length)) s' := I'.write (e := L) (t' := s'.toks) (by rw [hD]; trivial) (.inl rfl) (fun b u hb hu => hu) ⟨ob, kk.ob⟩ (sz_newB (ky_szB K))
  refine wpAny_assign_Name (store_ok2 (v := V.ref L) I1 hN hy (.inl hyl) rfl (fun s2 I2 ⟨a, sb, ha⟩ => ?_) (.inr hyl))
  obtain ⟨f0, f1, f2, f3, f4, f5⟩ := f
  have haC : C ≠ a := by
    rcases ha with z | z
    · rw [z]; exact f1
    · exact fun e => f4 y a z e.symm
  refine ⟨m, hn.sameBut sb haC, fun h3 sb3 => ?_⟩
  have f0' : upd H' L (SzO L ks.length) C = none := by
    by_cases e : C = L
    · subst e; rw [hD] at f0; cases f0
    · rw [upd_ne e]; exact f0
  exact ⟨_, _, I2.turned (t' := s2.toks) (fun b o hb e => (sb3.2 b hb).trans e) f0' f1 f3 f4 f5, q⟩
end
end Sh
namespace Sh
open PySem PySem.Spec PyProof.Rows L2
/-! ### by the model -/
def keysW : List W → Option (List Key)
  | [] => some []
  | w :: ws => match keyW w, keysW ws with
    | some k, some ks => some (k :: ks)
    | _, _ => none
def addK (ks : List Key) (k : Key) : List Key := if k ∈ ks then ks else ks ++ [k]
def dedupK (ks : List Key) : List Key := ks.foldl addK []
theorem keysW_app : ∀ {a b : List W} {ks : List Key}, keysW (a ++ b) = some ks → ∃ k1 k2, keysW a = some k1 ∧ keysW b = some k2 ∧ ks = k1 ++ k2
  | [], b, ks, h => ⟨[], ks, rfl, h, rfl⟩
  | w :: a, b, ks, h => by
    simp only [List.cons_append, keysW] at h
    split at h
    · rename_i k ks' h1 h2
      cases h
      obtain ⟨k1, k2, e1, e2, rfl⟩ := keysW_app h2
      exact ⟨k :: k1, k2, by simp only [keysW, h1, e1], e2, rfl⟩
    · cases h
theorem addK_len {ks : List Key} {k : Key} : (addK ks k).length ≤ ks.length + 1 := by
  unfold addK; split <;> simp
theorem dedup_len (ks : List Key) : (dedupK ks).length ≤ ks.length := by
  have : ∀ (l a : List Key), (l.foldl addK a).length ≤ a.length + l.length := by
    intro l
    induction l with
    | nil => intro a; simp
    | cons k l ih =>
      intro a
      have h1 := ih (addK a k)
      have h2 := addK_len (ks := a) (k := k)
      simp only [List.foldl_cons, List.length_cons]
      omega
  have := this ks []
  simp only [List.length_nil, Nat.zero_add] at this
  exact this
theorem lcN_pre {J : ItM} {g : GM} {t : TM} {a : EM} {e0 : En} {xs : List W} {S9 : Store} : ∀ {n i : Nat} {acc : List W} {S : Store}, lcN J g t a e0 n i acc S = .ok xs S9 → ∃ r, xs = acc ++ r
  | 0, _, _, _, h => by cases h
  | n + 1, i, acc, S, h => by
    simp only [lcN] at h
    cases hj : J i S with
    | none => rw [hj] at h; cases h
    | some o =>
      rw [hj] at h
      cases o with
      | none => injection h with e1 e2; exact ⟨[], by rw [e1, List.append_nil]⟩
      | some w =>
        dsimp only at h
        cases hg : g w e0 S with
        | none => rw [hg] at h; cases h
        | some p =>
          obtain ⟨e1, S1⟩ := p
          rw [hg] at h
          dsimp only at h
          cases ht : t e1 S1 with
          | bad => rw [ht] at h; cases h
          | exc _ _ => rw [ht] at h; cases h
          | ok k S2 =>
            rw [ht, R.bind_ok] at h
            cases k with
            | false => rw [if_neg Bool.false_ne_true] at h; exact lcN_pre h
            | true =>
              rw [if_pos rfl] at h
              cases ha : a e1 S2 with
              | bad => rw [ha] at h; cases h
              | exc _ _ => rw [ha] at h; cases h
              | ok x S3 =>
                rw [ha, R.bind_ok] at h
                split at h
                · obtain ⟨r, e⟩ := lcN_pre h
                  exact ⟨x :: r, by rw [e]; simp⟩
                · cases h
/-- the keys of a set comprehension, each once -/
noncomputable def skM (it : IM) (own : List Nat) (g : GM) (t : TM) (a : EM) : En → Store → R (List Key) := fun e S => (it e S).bind fun J S1 =>
  (lcN J g t a (wipeE e own) fuel 0 [] S1).noexc.bind fun xs S2 => match keysW xs with
    | some ks => if ks.length + 1 < scanBound then .ok (dedupK ks) S2 else .bad
    | none => .bad
/-- behind such an expression: the set is new at D -/
def PostK (P : Program) (w : World) (K : PySem.W.Frag) (mg : Str → Option Value) (Wx : WX) (σ : L2.St) (H : Hp) (φ : Fi) (Q : VK) : R (List Key) → Prop
  | .ok ks S' => ∀ D H' φ', Ext H H' φ φ' → SR K mg H' (φ'.hide D) S' → Out φ' D → H D = none → H' D = some (KyO P w D ks) → Q (.ref D) H'
  | .exc x S' => ∀ cls d H' φ', Ext H H' φ φ' → SR K mg H' φ' S' → XR K mg H' φ' x cls d → Wx cls d σ H'
  | .bad => False
def rSk (P : Program) (w : World) (K : PySem.W.Frag) (mg : Str → Option Value) (Wx : WX) (m : En → Store → R (List Key)) : TE := fun σ H Q => ∃ e S φ, ER K mg H φ e σ ∧ SR K mg H φ S ∧ PostK P w K mg Wx σ H φ Q (m e S)
theorem none_back {K : PySem.W.Frag} {mg : Str → Option Value} {H H' : Hp} {φ φ' : Fi} {S' : Store} (x : Ext H H' φ φ') (s : SR K mg H' φ' S') {D : Addr} (h : H' D = none) : H D = none := by
  cases q : H D with
  | none => rfl
  | some o =>
    by_cases hd : D ∈ φ.t
    · obtain ⟨l, e⟩ := x.pre
      obtain ⟨u, hu, _⟩ := s.ho (p := D) (by rw [e]; exact List.mem_append_left _ hd)
      rw [h] at hu; cases hu
    · have := x.fr D o q hd
      rw [h] at this; cases this
theorem sk_read {P : Program} {w0 : World} {K : PySem.W.Frag} {mg : Str → Option Value} {Wx : WX} {it : IM} {own : List Nat} {g : GM} {t : TM} {a : EM} {σ : L2.St} {H : Hp} {Q : VK} (h : rSk P w0 K mg Wx (skM it own g t a) σ H Q) :
    tSk P w0 (rIt K mg Wx it) (rGo K mg own g) (rT K mg NoX t) (rE K mg NoX a) own σ H Q := by
  obtain ⟨e, S, φ, er, sr, q⟩ := h
  refine ⟨e, S, φ, er, sr, ?_⟩
  unfold skM at q
  cases hit : it e S with
  | bad => rw [hit] at q; exact q.elim
  | exc x S1 => rw [hit] at q; exact q
  | ok J S1 =>
  rw [hit, R.bind_ok] at q
  intro Jr H1 φ1 x1 s1 jr
  have q1 := q
  intro D hD
  cases hl : lcN J g t a (wipeE e own) fuel 0 [] S1 with
  | bad => rw [hl] at q1; exact q1.elim
  | exc _ _ => rw [hl] at q1; exact q1.elim
  | ok xs S9 =>
    rw [hl] at q1
    simp only [R.noexc, R.bind_ok] at q1
    have hD0 := none_back x1 s1 hD
    cases hk : keysW xs with
    | none => rw [hk] at q1; exact q1.elim
    | some KS =>
    rw [hk] at q1
    dsimp only at q1
    by_cases hb : KS.length + 1 < scanBound
    case neg => rw [if_neg hb] at q1; exact q1.elim
    rw [if_pos hb] at q1
    obtain ⟨x0, s0⟩ := s1.hideNew (o := KyO P w0 D []) hD
    have nD := s1.notin hD
    let Kp : Hp → Fi → Prop := fun H2 φ2 => (∃ l, φ2.t = φ1.t ++ l) ∧ φ2.h = D :: φ1.h ∧ (∀ p o, H1 p = some o → p ∉ φ1.t → H2 p = some o) ∧ (∀ p, p ∈ φ2.t → p ∉ φ1.t → H1 p = none ∧ p ≠ D) ∧ (∀ p ys, H1 p = some (.tup ys) → H2 p = some (.tup ys)) ∧ ∀ p o u, H1 p = some (.frz o u) → H2 p = some (.frz o u)
    have kp0 : Kp (upd H1 D (KyO P w0 D [])) (φ1.hide D) := ⟨⟨[], by simp [Fi.hide]⟩, rfl, fun p o h _ => by rw [upd_ne (ne_of_none h hD)]; exact h, fun p h n => absurd h n, fun p ys h => by rw [upd_ne (ne_of_none h hD)]; exact h, fun p o u h => by rw [upd_ne (ne_of_none h hD)]; exact h⟩
    have kpx : ∀ {H2 H3 φ2 φ3}, Kp H2 φ2 → H2 D ≠ none → Ext H2 H3 φ2 φ3 → Kp H3 φ3 := by
      rintro H2 H3 φ2 φ3 ⟨⟨l, e1⟩, e2, e3, e4, e5, e6⟩ hd y
      obtain ⟨l', e1'⟩ := y.pre
      refine ⟨⟨l ++ l', by rw [e1', e1, List.append_assoc]⟩, y.hid.trans e2, fun p o hp n => ?_, fun p hp n => ?_, fun p ys hp => y.tup _ _ (e5 p ys hp), fun p o u hp => y.frz _ _ _ (e6 p o u hp)⟩
      · refine y.fr p o (e3 p o hp n) fun z => ?_
        have := (e4 p z n).1
        rw [hp] at this; cases this
      · by_cases hp2 : p ∈ φ2.t
        · exact e4 p hp2 n
        · have z := y.new p hp hp2
          refine ⟨?_, fun e => ?_⟩
          · cases q : H1 p with
            | none => rfl
            | some o => rw [e3 p o q n] at z; cases z
          · subst e; exact hd z
    have kpm : ∀ {H2 φ2}, Kp H2 φ2 → Ext H1 H2 φ1 ⟨φ2.t, φ1.h⟩ := by
      rintro H2 φ2 ⟨e1, e2, e3, e4, e5, e6⟩
      exact ⟨e1, rfl, e3, fun p hp n => (e4 p hp n).1, e5, e6⟩
    have hideV : ∀ {H2 φ2}, Kp H2 φ2 → H2 D ≠ none → Mon H1 H2 φ1 φ2 := by
      rintro H2 φ2 ⟨e1, e2, e3, e4, e5, e6⟩ hd
      refine ⟨e1, fun p o hp n => ⟨e3 p o hp n.1, fun z => ?_, fun z => ?_⟩, e5, e6⟩
      · have := (e4 p z n.1).1
        rw [hp] at this; cases this
      · rw [e2] at z
        rcases List.mem_cons.mp z with z | z
        · subst z; rw [hD] at hp; cases hp
        · exact n.2 z
    refine ⟨fun i m H2 => ∃ acc ks S2 φ2, Kp H2 φ2 ∧ H2 D = some (KyO P w0 D (dedupK ks)) ∧ keysW acc = some ks ∧ SR K mg H2 φ2 S2 ∧ lcN J g t a (wipeE e own) m i acc S2 = .ok xs S9, ⟨fuel, [], [], S1, φ1.hide D, kp0, upd_same, rfl, s0, hl⟩, ?_⟩
    rintro i m H2 ⟨acc, ks, S2, φ2, k2, hD2, ra, s2, h2⟩
    have hs : φ2 = Fi.hide ⟨φ2.t, φ1.h⟩ D := by
      obtain ⟨t2, h2'⟩ := φ2
      have : h2' = D :: φ1.h := k2.2.1
      subst this; rfl
    have nDt : D ∉ φ2.t := (s2.hd D (by rw [k2.2.1]; exact List.mem_cons_self)).1
    have nd2 : H2 D ≠ none := by rw [hD2]; exact fun z => nomatch z
    have s2' : SR K mg H2 (Fi.hide ⟨φ2.t, φ1.h⟩ D) S2 := by rw [← hs]; exact s2
    obtain ⟨moS, s2v⟩ := s2'.show_
    cases m with
    | zero => cases h2
    | succ m =>
      have j := jr i S2 H2 φ2 (hideV k2 nd2) s2
      simp only [lcN] at h2
      cases hj : J i S2 with
      | none => simp only [hj] at h2; cases h2
      | some o =>
        rw [hj] at j
        simp only [hj] at h2
        cases o with
        | none =>
          injection h2 with e8 e9
          subst e8 e9
          rw [ra] at hk
          cases hk
          exact .inl ⟨j, q1 D H2 ⟨φ2.t, φ1.h⟩ (x1.trans (kpm k2)) s2' ⟨nDt, nD.2⟩ hD0 hD2⟩
        | some w =>
          obtain ⟨jg, jy⟩ := j
          dsimp only at h2
          refine .inr ⟨jg, fun H' => ∃ acc ks S2 φ2, Kp H' φ2 ∧ H' D = some (KyO P w0 D (dedupK ks)) ∧ keysW acc = some ks ∧ SR K mg H' φ2 S2 ∧ lcN J g t a (wipeE e own) m (i + 1) acc S2 = .ok xs S9, fun H' h => ⟨m, Nat.lt_succ_self m, h⟩, fun y H3 hy => ?_⟩
          obtain ⟨eH3, r3⟩ := jy y H3 hy
          subst eH3
          cases hgw : g w (wipeE e own) S2 with
          | none => simp only [hgw] at h2; cases h2
          | some p =>
            obtain ⟨e4, S4⟩ := p
            simp only [hgw] at h2
            have er3 : ER K mg H3 φ2 (wipeE e own) (wipe σ own) := (ER.monoM (hideV k2 nd2) (er.mono x1)).wipe own
            refine ⟨w, wipeE e own, S2, φ2, e4, S4, r3, er3, s2, hgw, fun σ5 H5 φ5 x5 er5 s5 hw5 => ⟨hw5.trans wipe_wipe, e4, S4, φ5, er5, s5, ?_⟩⟩
            have k5 := kpx k2 nd2 x5
            obtain ⟨d5, nd5⟩ := x5.beside hD2 nDt
            cases ht : t e4 S4 with
            | bad => simp only [ht, R.bind_bad] at h2; cases h2
            | exc _ _ => simp only [ht, R.bind_exc] at h2; cases h2
            | ok k S6 =>
              simp only [ht, R.bind_ok] at h2
              intro k' H6 φ6 x6 s6 ek
              subst ek
              have k6 := kpx k5 (by rw [d5]; exact fun z => nomatch z) x6
              obtain ⟨d6, nd6⟩ := x6.beside d5 nd5
              cases k with
              | false =>
                rw [if_neg Bool.false_ne_true] at h2 ⊢
                exact ⟨acc, ks, S6, φ6, k6, d6, ra, s6, h2⟩
              | true =>
                rw [if_pos rfl] at h2 ⊢
                refine ⟨e4, S6, φ6, er5.mono x6, s6, ?_⟩
                cases ha : a e4 S6 with
                | bad => simp only [ha, R.bind_bad] at h2; cases h2
                | exc _ _ => simp only [ha, R.bind_exc] at h2; cases h2
                | ok z S7 =>
                  simp only [ha, R.bind_ok] at h2
                  intro zv H7 φ7 x7 s7 rz
                  have k7 := kpx k6 (by rw [d6]; exact fun z => nomatch z) x7
                  obtain ⟨d7, nd7⟩ := x7.beside d6 nd6
                  split at h2
                  · obtain ⟨r, er⟩ := lcN_pre h2
                    rw [er] at hk
                    obtain ⟨k1, _, e1, _, eK⟩ := keysW_app hk
                    obtain ⟨ka, kb, e2, e3, e4⟩ := keysW_app e1
                    rw [ra] at e2
                    cases e2
                    simp only [keysW] at e3
                    split at e3
                    · rename_i key ks' hkey hks
                      cases hks
                      cases e3
                      subst e4
                      have ezv : zv = kV key := by
                        cases z with
                        | int i => cases hkey; exact rz
                        | str x => cases hkey; exact rz
                        | _ => cases hkey
                      have hs7 : φ7 = Fi.hide ⟨φ7.t, φ1.h⟩ D := by
                        obtain ⟨t7, h7'⟩ := φ7
                        have : h7' = D :: φ1.h := k7.2.1
                        subst this; rfl
                      have s7' : SR K mg H7 (Fi.hide ⟨φ7.t, φ1.h⟩ D) S7 := by rw [← hs7]; exact s7
                      obtain ⟨mo, s8⟩ := s7'.hideSet (o' := KyO P w0 D (dedupK (ks ++ [key]))) d7 rfl
                      rw [← hs7] at mo s8
                      have ed : dedupK (ks ++ [key]) = if key ∈ dedupK ks then dedupK ks else dedupK ks ++ [key] := by
                        unfold dedupK
                        rw [List.foldl_append]
                        rfl
                      have elen := dedup_len ks
                      have eKl : ks.length + 1 ≤ KS.length := by rw [eK]; simp
                      refine ⟨key, dedupK ks, ezv, d7, by omega, acc ++ [z], ks ++ [key], S7, φ7, ?_, ?_, e1, ?_, h2⟩
                      · obtain ⟨c1, c2, c3, c4, c5, c6⟩ := k7
                        rw [← ed]
                        refine ⟨c1, c2, fun p o hp n => ?_, c4, fun p ys hp => mo.tup _ _ (c5 p ys hp), fun p o u hp => mo.frz _ _ _ (c6 p o u hp)⟩
                        have hne : p ≠ D := fun z => by rw [z, hD] at hp; cases hp
                        rw [upd_ne hne]
                        exact c3 p o hp n
                      · rw [ed]; exact upd_same
                      · rw [← ed]; exact s8
                    · cases e3
                  · cases h2
/-- an expression whose value is a new set that has no name yet -/
abbrev MSk (X : Cx) (Wx : WX) (e : Expr) (m : En → Store → R (List Key)) : Prop := PE X e (rSk X.prog X.w X.K X.mg Wx m)
section
variable {X : Cx} {Wx : WX} {elt tg iter : Expr} {ifs : List Expr} {scope : Scope} {own : List (PySem.Str × Nat)} {pos : Pos} {it : IM} {g : GM} {T : TM} {A : EM} {e : Expr} {m : En → Store → R (List Key)}
theorem m_sk (hc : X.calm = true) (hN : X.N.Nodup) (hi : MI X Wx tg iter it) (ok : BlkOk X.N X.env.scope scope own) (hg : Blk X scope fun Y => MGo Y (ownI own) tg g) (ht : Blk X scope fun Y => MTs Y NoX ifs T) (he : Blk X scope fun Y => ME Y NoX elt A)
    (hs : ∀ x, foldedSetIterable iter X.env x = pure x := by intro _; rfl) : MSk X Wx (.SetComp elt [⟨tg, iter, ifs, 0⟩] scope pos) (skM it (ownI own) g T A) :=
  leE (pe_sk (own := own) (wi := rIt X.K X.mg Wx it) (g := rGo X.K X.mg (ownI own) g) (tt := rT X.K X.mg NoX T) (te := rE X.K X.mg NoX A) hc hN hi ok (fun s H C cl fp => hg s H C cl fp) (fun s H C cl fp => ht s H C cl fp) (fun s H C cl fp => he s H C cl fp) hs) fun σ H Q h => sk_read h
/-- a set as a value: its number alone is known -/
def eSz (m : En → Store → R (List Key)) : EM := fun e S => (m e S).bind fun ks S1 => .ok (.siz ks.length) S1
theorem ky_sz {P : Program} {w : World} {h : Heap} {a : Addr} {ks : List Key} (K : Ky P w h a ks) : SzAt h a ks.length := by
  obtain ⟨o, es, ep, t, K⟩ := K
  exact ⟨o, es, ep, t, K.ob, K.ex, K.da, K.ft, K.sc, K.size⟩
theorem sz_new {P : Program} {w : World} {H : Hp} {h : Heap} {a : Addr} {n : Nat} (K : SzAt h a n) : ObjOk P w H h a (SzO a n) := by
  have ⟨o, _, _, _, ho, _⟩ := K
  exact ⟨K, ⟨o, ho⟩, fun h1 h2 p q => by
    obtain ⟨o, es, ep, t, ho, r⟩ := p
    exact ⟨o, es, ep, t, q o ho, r⟩⟩
/-- the new thing may become another one -/
theorem sz_turn {K : PySem.W.Frag} {mg : Str → Option Value} {H H' : Hp} {φ φ' : Fi} {S' : Store} (x : Ext H H' φ φ') {D : Addr} (s : SR K mg H' (φ'.hide D) S') {f : Heap → Prop} {o' : HO} (h0 : H D = none) (h : H' D = some (.ext f)) : Ext H (upd H' D o') φ φ' ∧ SR K mg (upd H' D o') φ' S' := by
  obtain ⟨_, s1⟩ := s.hideSet (o' := o') h rfl
  have ne : ∀ {p o}, H p = some o → p ≠ D := fun {p o} e z => by rw [z, h0] at e; cases e
  exact ⟨⟨x.pre, x.hid, fun p o e n => by rw [upd_ne (ne e)]; exact x.fr p o e n, x.new, fun p xs e => by rw [upd_ne (ne e)]; exact x.tup p xs e, fun p o u e => by rw [upd_ne (ne e)]; exact x.frz p o u e⟩, s1.show_.2⟩
theorem m_siz (h : MSk X Wx e m) : ME X Wx e (eSz m) := ⟨fun pins s σ H Q I ⟨en, S, φ, er, sr, q⟩ => by
  refine thn (h.run pins s σ H (fun v H1 => ∃ D ks, v = .ref D ∧ H1 D = some (KyO X.prog X.w D ks) ∧ Q (.ref D) (upd H1 D (SzO D ks.length))) I ⟨en, S, φ, er, sr, ?_⟩) fun u s1 ⟨v, H1, I1, rv, D, ks, e1, hD, q1⟩ => ?_
  · unfold eSz at q
    cases hm : m en S with
    | bad => rw [hm] at q; exact q.elim
    | exc x S1 => rw [hm] at q; exact q
    | ok ks S1 =>
      rw [hm, R.bind_ok] at q
      intro D H1 φ1 x1 s1 o h0 hD
      obtain ⟨x, s2⟩ := sz_turn (o' := SzO D ks.length) x1 s1 h0 hD
      exact ⟨D, ks, rfl, hD, q (.ref D) _ φ1 x s2 (by simp only [VR]; exact ⟨D, rfl, o, upd_same⟩)⟩
  · subst e1
    cases rv
    have K := ky_get I1 hD
    have ⟨o, _, _, _, k⟩ := K
    exact ⟨.ref D, _, I1.write (e := D) (t' := s1.toks) (by rw [hD]; trivial) (.inl rfl) (fun b u hb hu => hu) ⟨o, k.ob⟩ (sz_new (ky_sz K)), rfl, q1⟩⟩
theorem ms_setSk {i : Nat} {y : PySem.Str} {py spos : Pos} (hc : X.calm = true) (hN : X.N.Nodup) (hy : X.N[i]? = some y) (hyl : X.env.scope.names.lookup y = some .local)
    (hsw : swapsWith (.SetComp elt [⟨tg, iter, ifs, 0⟩] scope pos) (some (.Name y py)) spos.line X.env = pure true) (hi : MI X Wx tg iter it) (ok : BlkOk X.N X.env.scope scope own) (hg : Blk X scope fun Y => MGo Y (ownI own) tg g) (ht : Blk X scope fun Y => MTs Y NoX ifs T) (he : Blk X scope fun Y => ME Y NoX elt A)
    (hs : ∀ x, foldedSetIterable iter X.env x = pure x := by intro _; rfl) : MS X Wx (.Assign [.Name y py] (.SetComp elt [⟨tg, iter, ifs, 0⟩] scope pos) spos) (sSet i (eSz (skM it (ownI own) g T A))) :=
  leS (ps_setSk (own := own) (i := i) (wi := rIt X.K X.mg Wx it) (g := rGo X.K X.mg (ownI own) g) (tt := rT X.K X.mg NoX T) (te := rE X.K X.mg NoX A) hc hN hy hyl hsw hi ok (fun s H C cl fp => hg s H C cl fp) (fun s H C cl fp => ht s H C cl fp) (fun s H C cl fp => he s H C cl fp) hs)
    fun D σ H ⟨e, S, φ, er, sr, q⟩ => sk_read ⟨e, S, φ, er, sr, by
      unfold sSet eSz at q
      cases hm : skM it (ownI own) g T A e S with
      | bad => rw [hm] at q; exact q.elim
      | exc x S1 => rw [hm] at q; exact fun cls d H' φ' x1 s1 r1 => q cls d σ H' φ' x1 (er.mono x1) s1 r1
      | ok ks S1 =>
        rw [hm] at q
        intro L H1 φ1 x1 s1 o h0 hD
        obtain ⟨x, s2⟩ := sz_turn (o' := SzO L ks.length) x1 s1 h0 hD
        exact ⟨L, ks, rfl, hD, q _ _ φ1 x ((er.mono x).set (by simp only [VR]; exact ⟨L, rfl, o, upd_same⟩)) s2⟩⟩
end
end Sh

set_option Elab.async false
set_option linter.all false
set_option maxRecDepth 100000
set_option maxHeartbeats 4000000
/-! ShH: len of a set, sorted of sets of texts, of lists of texts and of numbers; max of a list. -/
namespace Sh
open PySem PySem.Spec PyProof.Rows L2
/-! ### len -/
def lenSN : PN := fun ws S => match ws with
  | [.siz n] => some (.int n, S)
  | _ => lenN ws S
def rLenS (K : PySem.W.Frag) : List V → Hp → VK → Prop := fun xs H Q => rLenM K xs H Q ∨ ∃ a n, xs = [.ref a] ∧ H a = some (SzO a n) ∧ Q (.int n) H
theorem call_lenS {X : Cx} : CallR X (.builtin "len") (rLenS X.K) := by
  intro pins s σ H xs us Q I r h
  rcases h with h | ⟨a, n, rfl, e, q⟩
  · exact call_lenM pins s σ H xs us Q I r h
  · obtain ⟨u, rfl, rx⟩ := vals1 r
    cases rx
    obtain ⟨o, es, ep, t, ho, hex, hd, hf, hsc, hn⟩ := (I.hok a _ e).1
    have hfit : (es.size : Int) < 2 ^ 63 := by
      have : scanBound ≤ 4096 := by decide
      omega
    refine call_len_set ho hex hd hf hfit ?_
    rw [hn]
    exact ⟨.int n, H, I.tok _, ⟨_, rfl⟩, q⟩
section
variable {K : PySem.W.Frag} {mg : Str → Option Value} {H : Hp} {φ : Fi} {S : Store}
theorem snd_lenS : SndN K mg lenSN (rLenS K) := fun ws S u S' H φ vs Q s r h q => by
  unfold lenSN at h
  split at h
  · rename_i n
    cases h
    obtain ⟨v, rfl, r1⟩ := one r
    simp only [VR] at r1
    obtain ⟨p, rfl, _, e⟩ := r1
    exact .inr ⟨p, n, rfl, e, same_end s (by simp [VR]) q⟩
  · exact .inl (snd_len ws S u S' H φ vs Q s r h q)
end
/-! ### the order of texts -/
def ltStr (a b : Str) : Bool := !ltCps b.cps.toList a.cps.toList
theorem ltStr_iff {a b : Str} : ltStr a b = true ↔ a.cps.toList ≤ b.cps.toList := by
  unfold ltStr
  rw [ltCps_eq, Bool.not_eq_true', decide_eq_false_iff_not]
  exact List.not_lt
theorem ltStr_antisymm {a b : Str} (h1 : ltStr a b = true) (h2 : ltStr b a = true) : a = b := by
  have := List.le_antisymm (ltStr_iff.mp h1) (ltStr_iff.mp h2)
  cases a; cases b
  simpa using this
theorem ltStr_trans {a b c : Str} (h1 : ltStr a b = true) (h2 : ltStr b c = true) : ltStr a c = true := ltStr_iff.mpr (List.le_trans (ltStr_iff.mp h1) (ltStr_iff.mp h2))
theorem ltStr_total {a b : Str} : (ltStr a b || ltStr b a) = true := by
  rw [Bool.or_eq_true, ltStr_iff, ltStr_iff]
  exact List.le_total _ _
/-- texts in order -/
def srtS (xs : List Str) : List Str := xs.mergeSort ltStr
theorem srtS_perm {xs : List Str} : (srtS xs).Perm xs := List.mergeSort_perm xs ltStr
theorem srtS_pw {xs : List Str} : (srtS xs).Pairwise fun a b => ltStr a b = true := List.pairwise_mergeSort (le := ltStr) (fun _ _ _ => ltStr_trans) (fun _ _ => ltStr_total) xs
theorem rising_pw : ∀ {p : Str} {l : List Str}, risingS p l = true → (p :: l).Pairwise fun a b => ltStr a b = true
  | p, [], _ => by simp
  | p, x :: r, h => by
    simp only [risingS, Bool.and_eq_true] at h
    have ih := rising_pw h.2
    refine List.pairwise_cons.mpr ⟨fun y hy => ?_, ih⟩
    rcases List.mem_cons.mp hy with rfl | hy
    · exact h.1
    · exact ltStr_trans (b := x) h.1 ((List.pairwise_cons.mp ih).1 y hy)
theorem sorted_pw {l : List Str} (h : sortedS l = true) : l.Pairwise fun a b => ltStr a b = true := by
  cases l with
  | nil => exact List.Pairwise.nil
  | cons x r => exact rising_pw h
theorem srtS_eq {xs ys : List Str} (h : sortedS ys = true) (p : ys.Perm xs) : ys = srtS xs :=
  List.Perm.eq_of_pairwise (fun a b _ _ h1 h2 => ltStr_antisymm h1 h2) (sorted_pw h) srtS_pw (p.trans srtS_perm.symm)
theorem srtS_congr {xs ys : List Str} (p : ys.Perm xs) : srtS ys = srtS xs :=
  List.Perm.eq_of_pairwise (fun a b _ _ h1 h2 => ltStr_antisymm h1 h2) srtS_pw srtS_pw ((srtS_perm.trans p).trans srtS_perm.symm)
/-- whole numbers in order -/
def leInt (a b : Int) : Bool := decide (a ≤ b)
def srtI (xs : List Int) : List Int := xs.mergeSort leInt
theorem srtI_perm {xs : List Int} : (srtI xs).Perm xs := List.mergeSort_perm xs leInt
theorem srtI_pw {xs : List Int} : (srtI xs).Pairwise (· ≤ ·) := by
  have := List.pairwise_mergeSort (le := leInt) (fun a b c h1 h2 => by simp only [leInt, decide_eq_true_eq] at *; omega) (fun a b => by simp only [leInt, Bool.or_eq_true, decide_eq_true_eq]; omega) xs
  exact this.imp fun h => by simpa [leInt] using h
theorem srtI_eq {xs ys : List Int} (h : ys.Pairwise (· ≤ ·)) (p : ys.Perm xs) : ys = srtI xs :=
  List.Perm.eq_of_pairwise (fun a b _ _ h1 h2 => Int.le_antisymm h1 h2) h srtI_pw (p.trans srtI_perm.symm)
/-! ### sorted of a set of texts -/
def keyStr : Key → Str
  | .inr x => x
  | .inl _ => Str.empty
theorem keyStr_inr (l : List Str) : ((l.map Sum.inr : List Key)).map keyStr = l := by
  induction l with
  | nil => rfl
  | cons x l ih => simp only [List.map_cons, ih, keyStr]
theorem keys_strs {es : List (Int × Value)} {xs : List Str} (P : Program) (w : World) (g : ElemsOf (mixKind P w) es) (p : (keysOf es).Perm (xs.map Sum.inr)) : ∀ v ∈ es.map (·.2), ∃ x t, v = Value.str x t := by
  intro v hv
  obtain ⟨e, he, rfl⟩ := List.mem_map.mp hv
  obtain ⟨⟨k, hk, _⟩, _⟩ := g e he
  have hm : kkey e.2 ∈ keysOf es := List.mem_map_of_mem (f := fun e => kkey e.2) he
  rcases keyIs_shape (show keyIs k e.2 = true from hk) with ⟨i, t, rfl, h⟩ | ⟨x, t, rfl, h⟩
  · rw [h] at hm
    have := p.mem_iff.mp hm
    obtain ⟨z, _, hz⟩ := List.mem_map.mp this
    cases hz
  · exact ⟨x, t, h⟩
def rSortK (P : Program) (w : World) : List V → Hp → VK → Prop := fun vs H Q => ∃ (a : Addr) (xs : List Str), vs = [V.ref a] ∧ H a = some (KyO P w a (xs.map Sum.inr)) ∧ xs.length < 64 ∧
  ∀ p, H p = none → Q (.ref p) (upd H p (.lst ((srtS xs).map V.str)))
theorem cr_sortK {X : Cx} (hc : X.calm = true) : CallR X (.builtin "sorted") (rSortK X.prog X.w) := by
  intro pins s σ H vs us Q I r h
  obtain ⟨a, xs, rfl, ha, h64, q⟩ := h
  obtain ⟨o, es, ep, t, K⟩ := ky_get I ha
  rw [Vals.ref1 r]
  refine Calls.call_function_entry kind_sorted plain_sorted entry_sorted (args_sorted1 _) ?_
  unfold Builtin.«sorted»
  refine wpAny_bind (m := checkCount "sorted" 1 1 _) (wpAny_pure ?_)
  refine wpAny_bind (collect_set (A := X.A.in1) (I.ok.hd hc) ⟨o, K.ob, K.ex.1, K.da⟩ K.ft K.sc K.rs K.ld fun s1 out keep big hg ho pm => ?_)
  have hall : ∀ v ∈ out, ∃ x t, v = Value.str x t := fun v hv => keys_strs X.prog X.w K.el K.pm v (pm.mem_iff.mp hv)
  have hS := strsAre_map out hall
  have hlen : out.length < 64 := by
    have h1 : out.length = (keysOf es.toList).length := by rw [pm.length_eq, List.length_map, List.length_map]
    rw [h1, K.pm.length_eq, List.length_map]; exact h64
  have hperm : (out.map strOf).Perm xs := by
    have h1 : (out.map kkey).Perm (xs.map Sum.inr) := by
      have h2 := pm.map kkey
      rw [List.map_map] at h2
      exact h2.trans K.pm
    have h3 : out.map kkey = (out.map strOf).map Sum.inr := by
      rw [List.map_map]
      refine List.map_congr_left fun v hv => ?_
      obtain ⟨x, t, rfl⟩ := hall v hv
      rfl
    rw [h3] at h1
    have h4 := h1.map keyStr
    rw [keyStr_inr, keyStr_inr] at h4
    exact h4
  refine wpAny_bind (wpAny_newList ?_ (by rw [sizeLine_eq]; omega))
  have hoL : (s1.heap.push (seqObj "list" out.toArray 0)).get? s1.heap.objs.size = some (seqObj "list" out.toArray 0) := Heap.get?_push_size _ rfl
  refine wpAny_bind (wpAny_holding (wpAny_call_entry slot_list_sort ⟨_, hoL, rfl⟩ entry_list_sort (list_sort_treeK strKind_oneLt hoL hS.keysOf (fun v₁ v₂ rest e => keyKind_strs (by rw [← e]; exact hS)) hlen fun st' hp hs => ⟨_, rfl, ?_⟩) (args_list_sort _)))
  obtain ⟨ss, a1, a2, a3⟩ := sorted_out_str hS hp hs
  obtain ⟨c, hcx⟩ := sortedHeap_at (vs := out) (out := (arrOf st').map (·.2)) hoL
  have es' : ss = srtS xs := srtS_eq a3 (a2.trans hperm)
  subst es'
  have keep2 : ∀ b u, s.heap.get? b = some u → (sortedHeap (s1.heap.push (seqObj "list" out.toArray 0)) s1.heap.objs.size out ((arrOf st').map (·.2))).get? b = some u := fun b u e => by
    have hb := keep b u e
    have hlt := Heap.lt_size hb
    rw [sortedHeap_old (Nat.ne_of_lt hlt) (by rw [size_push']; exact Nat.lt_succ_of_lt hlt)]
    exact Heap.get?_push_of_some _ hb
  have hfree : H s1.heap.objs.size = none := I.hok.fresh big
  have hsz : ((srtS xs).map V.str).length ≤ sizeLine := by rw [List.length_map, srtS_perm.length_eq, sizeLine_eq]; omega
  refine wpAny_pure ⟨_, rfl, ?_⟩
  have J : Inv X pins σ (upd H s1.heap.objs.size (.lst ((srtS xs).map V.str))) { s with heap := sortedHeap (s1.heap.push (seqObj "list" out.toArray 0)) s1.heap.objs.size out ((arrOf st').map (·.2)), gens := s1.gens, drawn := s1.drawn, toks := s1.toks } :=
    I.call (ch := []) (Un.laid keep2 big hfree) (I.hok.laid keep2 big ⟨hsz, _, c, vals_of_strs a1, hcx⟩) (by rw [hg]; exact I.bare) (fun _ z => nomatch z)
  refine ⟨.ref s1.heap.objs.size, _, ?_, rfl, q _ hfree⟩
  have e : ({ s1 with heap := sortedHeap (s1.heap.push (seqObj "list" out.toArray 0)) s1.heap.objs.size out ((arrOf st').map (·.2)) } : Shared) = { s with heap := sortedHeap (s1.heap.push (seqObj "list" out.toArray 0)) s1.heap.objs.size out ((arrOf st').map (·.2)), gens := s1.gens, drawn := s1.drawn, toks := s1.toks } := by
    cases s1; cases s; cases ho; rfl
  rw [e]
  exact J
def strsK : List Key → Option (List Str)
  | [] => some []
  | .inr x :: ks => (strsK ks).map fun xs => x :: xs
  | .inl _ :: _ => none
theorem strsK_ok : ∀ {ks : List Key} {xs : List Str}, strsK ks = some xs → ks = xs.map Sum.inr
  | [], xs, h => by cases h; rfl
  | .inr x :: ks, xs, h => by
    simp only [strsK, Option.map_eq_some_iff] at h
    obtain ⟨ys, h1, rfl⟩ := h
    rw [strsK_ok h1]; rfl
  | .inl _ :: _, _, h => by cases h
theorem strsK_inr (xs : List Str) : strsK (xs.map Sum.inr) = some xs := by
  induction xs with
  | nil => rfl
  | cons x xs ih => simp only [List.map_cons, strsK, ih, Option.map_some]
/-- sorted of a new set of texts -/
def eSortK (mm : Bool) (m : En → Store → R (List Key)) : EM := fun e S => (m e S).bind fun ks S1 => match strsK ks with
  | some xs => if xs.length < 64 then .ok (mkL mm ((srtS xs).map W.str) S1).1 (mkL mm ((srtS xs).map W.str) S1).2 else .bad
  | none => .bad
theorem vrs_strs {K : PySem.W.Frag} {mg : Str → Option Value} {H : Hp} {φ : Fi} : ∀ xs : List Str, VRs K mg H φ (xs.map W.str) (xs.map V.str)
  | [] => by simp [VRs]
  | x :: xs => by
    simp only [List.map_cons, VRs]
    exact ⟨.str x, _, rfl, by simp [VR], vrs_strs xs⟩
theorem vrs_ints {K : PySem.W.Frag} {mg : Str → Option Value} {H : Hp} {φ : Fi} : ∀ xs : List Int, VRs K mg H φ (xs.map W.int) (xs.map V.int)
  | [] => by simp [VRs]
  | x :: xs => by
    simp only [List.map_cons, VRs]
    exact ⟨.int x, _, rfl, by simp [VR], vrs_ints xs⟩
section
variable {X : Cx} {Wx : WX} {e : Expr} {m : En → Store → R (List Key)} {p pos : Pos} {mm : Bool}
theorem m_sortK (hc : X.calm = true) (h : MSk X Wx e m) (hg : Gl X "sorted") (hm : X.mg "sorted" = none) (he : starEach [e] X.env = (false, eval e X.env) :: starEach [] X.env := by rfl) (hpl : (backTo pos (starEach [] X.env)).any (·.1) = false := by rfl) :
    ME X Wx (.Call (.Name "sorted" p) [e] [] pos) (eSortK mm m) :=
  leE (pe_callB (cr_sortK hc) hg hm boot_sorted (pa_cons h pa_nil he) (by decide) (by decide) he hpl) fun σ H Q ⟨en, S, φ, er, sr, q⟩ => by
    refine ⟨en, S, φ, er, sr, ?_⟩
    unfold eSortK at q
    cases hk : m en S with
    | bad => rw [hk] at q; exact q.elim
    | exc x S1 => rw [hk] at q; exact q
    | ok ks S1 =>
      rw [hk, R.bind_ok] at q
      cases hs : strsK ks with
      | none => rw [hs] at q; exact q.elim
      | some xs =>
        rw [hs] at q
        dsimp only at q
        by_cases h64 : xs.length < 64
        case neg => rw [if_neg h64] at q; exact q.elim
        rw [if_pos h64] at q
        intro D H1 φ1 x1 s1 o h0 hD
        rw [strsK_ok hs] at hD
        exact ⟨D, xs, rfl, hD, h64, fun p hp => new_lst (m := mm) s1.show_.2 (vrs_strs (srtS xs)) (fun z H2 φ2 x2 s2 r2 => q z H2 φ2 (x1.trans x2) s2 r2) p hp⟩
end
/-! ### sorted of a list of texts, of whole numbers -/
def strsL : List W → Option (List Str)
  | [] => some []
  | .str x :: ws => (strsL ws).map fun xs => x :: xs
  | _ :: _ => none
theorem strsL_ok : ∀ {ws : List W} {xs : List Str}, strsL ws = some xs → ws = xs.map W.str
  | [], xs, h => by cases h; rfl
  | .str x :: ws, xs, h => by
    simp only [strsL, Option.map_eq_some_iff] at h
    obtain ⟨ys, h1, rfl⟩ := h
    rw [strsL_ok h1]; rfl
  | .int _ :: _, _, h => by cases h
  | .non :: _, _, h => by cases h
  | .bl _ :: _, _, h => by cases h
  | .tup _ :: _, _, h => by cases h
  | .ref _ :: _, _, h => by cases h
  | .ty _ :: _, _, h => by cases h
  | .glo _ :: _, _, h => by cases h
  | .lst _ :: _, _, h => by cases h
  | .dic _ _ :: _, _, h => by cases h
  | .scr _ :: _, _, h => by cases h
  | .siz _ :: _, _, h => by cases h
def intsL : List W → Option (List Int)
  | [] => some []
  | .int x :: ws => (intsL ws).map fun xs => x :: xs
  | _ :: _ => none
theorem intsL_ok : ∀ {ws : List W} {xs : List Int}, intsL ws = some xs → ws = xs.map W.int
  | [], xs, h => by cases h; rfl
  | .int x :: ws, xs, h => by
    simp only [intsL, Option.map_eq_some_iff] at h
    obtain ⟨ys, h1, rfl⟩ := h
    rw [intsL_ok h1]; rfl
  | .str _ :: _, _, h => by cases h
  | .non :: _, _, h => by cases h
  | .bl _ :: _, _, h => by cases h
  | .tup _ :: _, _, h => by cases h
  | .ref _ :: _, _, h => by cases h
  | .ty _ :: _, _, h => by cases h
  | .glo _ :: _, _, h => by cases h
  | .lst _ :: _, _, h => by cases h
  | .dic _ _ :: _, _, h => by cases h
  | .scr _ :: _, _, h => by cases h
  | .siz _ :: _, _, h => by cases h
theorem strsL_map (xs : List Str) : strsL (xs.map W.str) = some xs := by
  induction xs with
  | nil => rfl
  | cons x xs ih => simp only [List.map_cons, strsL, ih, Option.map_some]
theorem intsL_map (xs : List Int) : intsL (xs.map W.int) = some xs := by
  induction xs with
  | nil => rfl
  | cons x xs ih => simp only [List.map_cons, intsL, ih, Option.map_some]
/-- sorted(xs) -/
def sortN (mm : Bool) : PN := fun ws S => match ws with
  | [x] => match lsW x S with
    | some ys => if ys.length < 64 then (match strsL ys with
        | some xs => some (mkL mm ((srtS xs).map W.str) S)
        | none => match intsL ys with
          | some xs => some (mkL mm ((srtI xs).map W.int) S)
          | none => none) else none
    | none => none
  | _ => none
def rSortN (K : PySem.W.Frag) : List V → Hp → VK → Prop := fun vs H Q => rSortedS K vs H Q ∨ rSorted K vs H Q
theorem call_sortN {X : Cx} : CallR X (.builtin "sorted") (rSortN X.K) := by
  intro pins s σ H xs us Q I r h
  rcases h with h | h
  · exact cr_sortedS pins s σ H xs us Q I r h
  · exact cr_sorted pins s σ H xs us Q I r h
theorem vals_strs {K : PySem.W.Frag} {mg : Str → Option Value} {H : Hp} {φ : Fi} : ∀ {xs : List Str} {vs : List V}, VRs K mg H φ (xs.map W.str) vs → vs = xs.map V.str
  | [], vs, h => by simpa [VRs] using h
  | x :: xs, vs, h => by
    simp only [List.map_cons, VRs] at h
    obtain ⟨v, r, rfl, h1, h2⟩ := h
    rw [vals_strs h2, List.map_cons, show v = V.str x from by simpa [VR] using h1]
theorem vals_ints {K : PySem.W.Frag} {mg : Str → Option Value} {H : Hp} {φ : Fi} : ∀ {xs : List Int} {vs : List V}, VRs K mg H φ (xs.map W.int) vs → vs = xs.map V.int
  | [], vs, h => by simpa [VRs] using h
  | x :: xs, vs, h => by
    simp only [List.map_cons, VRs] at h
    obtain ⟨v, r, rfl, h1, h2⟩ := h
    rw [vals_ints h2, List.map_cons, show v = V.int x from by simpa [VR] using h1]
section
variable {K : PySem.W.Frag} {mg : Str → Option Value} {H : Hp} {φ : Fi} {S : Store} {mm : Bool}
theorem snd_sortN : SndN K mg (sortN mm) (rSortN K) := fun ws S u S' H φ vs Q s r h q => by
  unfold sortN at h
  split at h
  · rename_i x
    obtain ⟨v, rfl, r1⟩ := one r
    split at h
    · rename_i ys hy
      obtain ⟨p, us, rfl, hp, rr⟩ := lsW_ok s r1 hy
      split at h
      · rename_i h64
        split at h
        · rename_i xs hx
          have eh := Option.some.inj h
          rw [strsL_ok hx] at rr
          have := vals_strs rr
          subst this
          rw [strsL_ok hx, List.length_map] at h64
          refine .inl ⟨p, xs, rfl, SqL.of hp, h64, fun zs a hz hs ha => ?_⟩
          rw [srtS_eq hs hz]
          exact new_lst (m := mm) s (vrs_strs (srtS xs)) (by rw [eh]; exact q) a ha
        · split at h
          · rename_i xs hx
            have eh := Option.some.inj h
            rw [intsL_ok hx] at rr
            have := vals_ints rr
            subst this
            rw [intsL_ok hx, List.length_map] at h64
            refine .inr ⟨p, xs, rfl, SqL.of hp, h64, fun zs a hz hs ha => ?_⟩
            rw [srtI_eq hs hz]
            exact new_lst (m := mm) s (vrs_ints (srtI xs)) (by rw [eh]; exact q) a ha
          · cases h
      · cases h
    · cases h
  · cases h
/-! ### max of a list of whole numbers -/
def maxI : List Int → Int
  | [] => 0
  | x :: xs => xs.foldl max x
theorem fold_max : ∀ (xs : List Int) (x : Int), (xs.foldl max x = x ∨ xs.foldl max x ∈ xs) ∧ x ≤ xs.foldl max x ∧ ∀ y ∈ xs, y ≤ xs.foldl max x
  | [], x => ⟨.inl rfl, Int.le_refl _, by simp⟩
  | z :: xs, x => by
    obtain ⟨h1, h2, h3⟩ := fold_max xs (max x z)
    simp only [List.foldl_cons]
    refine ⟨?_, by omega, fun y hy => ?_⟩
    · rcases h1 with h1 | h1
      · rw [h1]
        rcases Int.le_total x z with h | h
        · right; rw [Int.max_eq_right h]; simp
        · left; exact Int.max_eq_left h
      · exact .inr (List.mem_cons_of_mem _ h1)
    · rcases List.mem_cons.mp hy with rfl | hy
      · omega
      · exact h3 y hy
theorem maxI_mem {x : Int} {xs : List Int} : maxI (x :: xs) ∈ x :: xs := by
  rcases (fold_max xs x).1 with h | h
  · show xs.foldl max x ∈ _
    rw [h]; exact List.mem_cons_self
  · exact List.mem_cons_of_mem _ h
theorem maxI_ge {x : Int} {xs : List Int} : ∀ y ∈ x :: xs, y ≤ maxI (x :: xs) := fun y hy => by
  rcases List.mem_cons.mp hy with rfl | hy
  · exact (fold_max xs y).2.1
  · exact (fold_max xs x).2.2 y hy
theorem maxI_eq {m x : Int} {xs : List Int} (h1 : m ∈ x :: xs) (h2 : ∀ y, y ∈ x :: xs → y ≤ m) : m = maxI (x :: xs) := Int.le_antisymm (maxI_ge m h1) (h2 _ maxI_mem)
def maxLN : PN := fun ws S => match ws with
  | [x] => match lsW x S with
    | some ys => match intsL ys with
      | some (n :: ns) => some (.int (maxI (n :: ns)), S)
      | _ => none
    | none => none
  | _ => none
theorem snd_maxL : SndN K mg maxLN (rMax K) := fun ws S u S' H φ vs Q s r h q => by
  unfold maxLN at h
  split at h
  · rename_i x
    obtain ⟨v, rfl, r1⟩ := one r
    split at h
    · rename_i ys hy
      obtain ⟨p, us, rfl, hp, rr⟩ := lsW_ok s r1 hy
      split at h
      · rename_i n ns hx
        cases h
        rw [intsL_ok hx] at rr
        have := vals_ints rr
        subst this
        refine ⟨p, n :: ns, rfl, SqL.of hp, by simp, fun m h1 h2 => ?_⟩
        rw [maxI_eq h1 h2]
        exact same_end s (by simp [VR]) q
      · cases h
    · cases h
  · cases h
end
end Sh

set_option Elab.async false
set_option linter.all false
set_option maxRecDepth 100000
set_option maxHeartbeats 4000000
/-! ShA: what is not known; dict(d); sorted(d.items()) of names and plain values. -/
namespace Sh
open PySem PySem.Spec PyProof.Rows L2
/-- an expression that the model does not know -/
def eBad : EM := fun _ _ => .bad
theorem pairs_get {P : Program} {w : World} {knd : KeyKind P w Key} : ∀ {es : List DictEntry} {kvs : List (Key × Value)} {j : Nat} {e : DictEntry}, Pairs knd es kvs → es[j]? = some e → ∃ kv, kvs[j]? = some kv ∧ knd.is kv.1 e.key = true ∧ e.val = kv.2
  | _, _, j, e, .nil, h => by simp at h
  | _, _, 0, e, .cons h1 h2 _, h => by
    simp only [List.getElem?_cons_zero] at h
    cases h
    exact ⟨_, rfl, h1, h2⟩
  | _, _, j + 1, e, .cons _ _ t, h => by
    simp only [List.getElem?_cons_succ] at h ⊢
    exact pairs_get t h
theorem pairs_len {P : Program} {w : World} {knd : KeyKind P w Key} : ∀ {es : List DictEntry} {kvs : List (Key × Value)}, Pairs knd es kvs → es.length = kvs.length
  | _, _, .nil => rfl
  | _, _, .cons _ _ t => by rw [List.length_cons, List.length_cons, pairs_len t]
/-! ### the rank of a text among others -/
theorem countP_lt {α : Type} {p q : α → Bool} {a : α} : ∀ {l : List α}, (∀ x ∈ l, p x = true → q x = true) → a ∈ l → p a = false → q a = true → l.countP p < l.countP q
  | [], _, h, _, _ => by simp at h
  | x :: l, hm, h, hp, hq => by
    have mono : l.countP p ≤ l.countP q := List.countP_mono_left fun y hy => hm y (List.mem_cons_of_mem _ hy)
    rcases List.mem_cons.mp h with e | h'
    · subst e
      rw [List.countP_cons_of_neg (by rw [hp]; simp), List.countP_cons_of_pos hq]
      omega
    · have ih := countP_lt (fun y hy => hm y (List.mem_cons_of_mem _ hy)) h' hp hq
      by_cases e : p x = true
      · rw [List.countP_cons_of_pos e, List.countP_cons_of_pos (hm x (List.mem_cons_self ..) e)]; omega
      · rw [List.countP_cons_of_neg e]
        have : l.countP q ≤ (x :: l).countP q := by rw [List.countP_cons]; omega
        omega
def rankS (ks : List Str) (x : Str) : Int := (ks.countP fun y => decide (y.cps.toList < x.cps.toList) : Nat)
theorem rank_ok {ks : List Str} {x y : Str} (hx : x ∈ ks) (hy : y ∈ ks) : decide (x.cps.toList < y.cps.toList) = decide (rankS ks x < rankS ks y) := by
  by_cases h : x.cps.toList < y.cps.toList
  · have : ks.countP (fun z => decide (z.cps.toList < x.cps.toList)) < ks.countP (fun z => decide (z.cps.toList < y.cps.toList)) :=
      countP_lt (a := x) (fun z _ hz => decide_eq_true (List.lt_trans (of_decide_eq_true hz) h)) hx (decide_eq_false (List.lt_irrefl _)) (decide_eq_true h)
    rw [decide_eq_true h, eq_comm, decide_eq_true_eq]
    unfold rankS
    omega
  · have : ks.countP (fun z => decide (z.cps.toList < y.cps.toList)) ≤ ks.countP (fun z => decide (z.cps.toList < x.cps.toList)) :=
      List.countP_mono_left fun z _ hz => decide_eq_true (Classical.byContradiction fun hn => List.le_trans (List.not_lt.mp h) (List.not_lt.mp hn) (of_decide_eq_true hz))
    rw [decide_eq_false h, eq_comm, decide_eq_false_iff_not]
    unfold rankS
    omega
/-! ### the sort's questions -/
def PairF (h : Heap) (v : Value) (y : Str) (u : Value) : Prop := ∃ (a : Addr) (t : Tok), v = .ref a ∧ IsTup h a #[.str y t, u]
def keyTxF (h : Heap) (v : Value) : Str := DT.txOf (DT.seqAt0 h (DT.refOf (some v)))
theorem PairF.tx {h : Heap} {v : Value} {y : Str} {u : Value} (x : PairF h v y u) : keyTxF h v = y := by
  obtain ⟨a, t, rfl, h1⟩ := x
  show DT.txOf (DT.seqAt0 h a) = y
  rw [DT.seqAt0_of h1]
  all_goals rfl
theorem firstsF {h : Heap} : ∀ vs : List Value, (∀ v ∈ vs, ∃ y u, PairF h v y u) → ∃ fs : List Value, PySem.W.KatTups h vs fs ∧ fs.length = vs.length ∧ ∀ f ∈ fs, ∃ x t, f = Value.str x t
  | [], _ => ⟨[], PySem.W.KatTups.nil, rfl, fun f hf => by simp at hf⟩
  | v :: vs, x => by
    obtain ⟨fs, k, hl, hi⟩ := firstsF vs fun u hu => x u (List.mem_cons_of_mem _ hu)
    obtain ⟨y, u, a, t, rfl, ⟨o, ho, hc, n, hd⟩⟩ := x v (List.mem_cons_self ..)
    refine ⟨.str y t :: fs, PySem.W.KatTups.cons ho hc hd rfl k, by rw [List.length_cons, List.length_cons, hl], fun f hf => ?_⟩
    rcases List.mem_cons.mp hf with rfl | hf
    · exact ⟨y, t, rfl⟩
    · exact hi f hf
def flatU (u u' : Value) : Prop := (∃ i t t', u = .int i t ∧ u' = .int i t') ∨ ∃ x t t', u = .str x t ∧ u' = .str x t'
section
variable {prog : Program} {w : World} {A : Around} {E : Value → Shared → Prop} {s : Shared}
theorem kindF {vs : List Value} {ρ : Str → Int} (h2 : 2 ≤ vs.length) (x : ∀ v ∈ vs, ∃ y u, PairF s.heap v y u) (same : ∀ v ∈ vs, ∀ v' ∈ vs, ∀ y u u', PairF s.heap v y u → PairF s.heap v' y u' → flatU u u')
    (hρ : ∀ v ∈ vs, ∀ u ∈ vs, decide ((keyTxF s.heap v).cps.toList < (keyTxF s.heap u).cps.toList) = decide (ρ (keyTxF s.heap v) < ρ (keyTxF s.heap u))) (Q : SortKind → Shared → Prop)
    (h : ∀ κ, TS.Cmp prog w A s κ (pairsOf vs) (fun v => ρ (keyTxF s.heap v)) → Q κ s) : wpAny (model prog w) A (keyKind' vs.toArray) Q E s := by
  obtain ⟨fs, k, hl, hi⟩ := firstsF vs x
  refine PySem.W.kat_kind (T := Value.type "str") k (by omega) (fun f hf => ?_) rfl (h _ ?_)
  · obtain ⟨x, t, rfl⟩ := hi f hf
    exact .now
  · intro p q hp hq Q' E' hQ
    rw [pairsOf_toList] at hp hq
    have mp := (mem_zip_self hp).2
    have mq := (mem_zip_self hq).2
    obtain ⟨y, u, py⟩ := x _ mp
    obtain ⟨z, u', pz⟩ := x _ mq
    have hr := hρ _ mp _ mq
    have hQ' : Q' (decide (y.cps.toList < z.cps.toList)) s := by
      rw [py.tx, pz.tx] at hr
      rw [hr]
      have hQ2 : Q' (decide (ρ (keyTxF s.heap p.1) < ρ (keyTxF s.heap q.1))) s := hQ
      rw [py.tx, pz.tx] at hQ2
      exact hQ2
    have sm := fun e : y = z => same _ mp _ mq y u u' py (e ▸ pz)
    obtain ⟨a, t, e1, ⟨o, ho, hc, n, hd⟩⟩ := py
    obtain ⟨a', t', e2, ⟨o', ho', hc', n', hd'⟩⟩ := pz
    rw [e1, e2]
    refine PySem.W.kat_lt ho hd ho' hd' ?_
    show PySem.W.KatLex prog w A _ false Q' [(Value.str y t, Value.str z t'), (u, u')] 0 s
    refine PySem.W.kat_cons (wpAny_eqBool_str ?_)
    by_cases e : y = z
    · have irr : decide (y.cps.toList < z.cps.toList) = false := by
        rw [e]
        exact decide_eq_false (List.lt_irrefl _)
      rw [irr] at hQ'
      rw [decide_eq_true e]
      refine PySem.W.kat_yes (PySem.W.kat_cons ?_)
      rcases sm e with ⟨i, t1, t2, rfl, rfl⟩ | ⟨x, t1, t2, rfl, rfl⟩
      · refine wpAny_eqBool_int ?_
        rw [show (i == i) = true from beq_self_eq_true i]
        exact PySem.W.kat_yes (PySem.W.kat_nil hQ')
      · refine wpAny_eqBool_str ?_
        rw [decide_eq_true rfl]
        exact PySem.W.kat_yes (PySem.W.kat_nil hQ')
    · rw [decide_eq_false e]
      exact PySem.W.kat_no (PyProof.Rows.oneLt_any_str hQ')
end
/-! ### d.items(), its sorted pairs -/
def rItemsK : V → List V → Hp → VK → Prop := fun x xs H Q => ∃ (a : Addr) (kvs : List (Key × V)), x = .ref a ∧ xs = [] ∧ H a = some (.dK kvs) ∧ ∀ p, H p = none → Q (.ref p) (upd H p (DX.itemsO p a))
theorem mt_itemsK {X : Cx} : MtR X "dict.items" rItemsK := by
  intro pins s σ H x xs v us Q I rx rxs h
  obtain ⟨a, kvs, rfl, rfl, ha, q⟩ := h
  cases rx
  cases rxs
  obtain ⟨z, hd, xs', rel, o, es, ep, ho, hx, hdat, _⟩ := dk_of I.hok ha
  refine DT.callItems (es := es) (ep := ep) hd ⟨o, ho, hx, hdat⟩ ?_
  have hf : H s.heap.objs.size = none := I.hok.fresh (Nat.le_refl _)
  exact ⟨.ref s.heap.objs.size, upd H s.heap.objs.size (DX.itemsO s.heap.objs.size a), I.laid (t' := s.toks) (fun b u e => Heap.get?_push_of_some _ e) (Nat.le_refl _) (DX.itemsO_ok (Heap.get?_push_size _ rfl)), rfl, q _ hf⟩
abbrev entF (e : Str × V) : Key × V := (Sum.inr e.1, e.2)
def flatV' (v : V) : Prop := (∃ i, v = .int i) ∨ ∃ x, v = .str x
def rSortF : List V → Hp → VK → Prop := fun vs H Q => ∃ (p a : Addr) (ks : List (Str × V)), vs = [.ref p] ∧ H p = some (DX.itemsO p a) ∧ H a = some (.dK (ks.map entF)) ∧ ks.length < 64 ∧ (∀ e ∈ ks, flatV' e.2) ∧
  ∀ (H' : Hp) (l : Addr) (ps : List (Addr × Str × V)), (∀ b o, H b = some o → H' b = some o) → H' l = none → (ks.map (·.1)).Nodup → (ps.map (·.2)).Perm ks → (ps.map (·.2)).Pairwise (fun e f => ltStr e.1 f.1 = true) →
    (∀ z ∈ ps, H' z.1 = some (.tup [.str z.2.1, z.2.2])) → Q (.ref l) (upd H' l (.lst (ps.map fun z => V.ref z.1)))
theorem flat_same {v : V} {u u' : Value} (h : flatV' v) (r : RelV v u) (r' : RelV v u') : flatU u u' := by
  rcases h with ⟨i, rfl⟩ | ⟨x, rfl⟩
  · obtain ⟨t, rfl⟩ := r; obtain ⟨t', rfl⟩ := r'; exact .inl ⟨i, t, t', rfl, rfl⟩
  · obtain ⟨t, rfl⟩ := r; obtain ⟨t', rfl⟩ := r'; exact .inr ⟨x, t, t', rfl, rfl⟩
theorem cr_sortF {X : Cx} (hc : X.calm = true) : CallR X (.builtin "sorted") rSortF := by
  intro pins s σ H xs us Q I r h
  obtain ⟨p, a, ks, rfl, hp, ha, h64, hv, q⟩ := h
  obtain rfl := Vals.ref1 r
  have view : s.heap.IsItemsView p a := (show ObjOk X.prog X.w H s.heap p (DX.itemsO p a) from I.hok p _ hp).1
  obtain ⟨z, hd, xs', rel, o, es, ep, ho, hx, hdat, hes, hps, hn⟩ := dk_of I.hok ha
  have l1 : (ks.map entF).length = xs'.length := Paired.length rel
  rw [List.length_map] at l1
  have l2 : es.size = xs'.length := by rw [← Array.length_toList]; exact pairs_len hps
  have hh : X.A.handled = none := I.ok.hd hc
  have hnd : (ks.map (·.1)).Nodup := by
    have e1 : (ks.map entF).map (·.1) = xs'.map (·.1) := rel.keys
    rw [← e1, List.map_map] at hn
    have e2 : (((·.1) : Key × V → Key) ∘ entF) = Sum.inr ∘ (·.1) := rfl
    rw [e2, ← List.map_map] at hn
    exact List.Pairwise.of_map _ (fun a b h e => h (by rw [e])) hn
  refine DT.sortedI (es := es) (ep := ep) hh view ⟨o, ho, hx, hdat⟩ (by rw [sizeLine_eq]; omega) fun h' tk as hk hlt hl hG => ?_
  have lak : as.length = ks.length := by omega
  have nd : as.Nodup := List.Pairwise.imp (fun h => Nat.ne_of_lt h) hG.rise
  -- the pairs that were made
  have pr : ∀ (j : Nat) (b : Addr), as[j]? = some b → ∃ (e : Str × V) (t : Tok) (u : Value), ks[j]? = some e ∧ RelV e.2 u ∧ h'.get? b = some { cls := .type "tuple", data := .seq #[Value.str e.1 t, u] } := by
    intro j b hj
    obtain ⟨en, he, hg⟩ := hG.pairs j b hj
    rw [← Array.getElem?_toList] at he
    obtain ⟨kv, hkv, k1, k2⟩ := pairs_get hps he
    obtain ⟨e0, he0, r1, r2⟩ := DX.pget rel hkv
    rw [List.getElem?_map] at he0
    cases hkj : ks[j]? with
    | none => rw [hkj] at he0; cases he0
    | some e =>
      rw [hkj] at he0
      have ee : entF e = e0 := Option.some.inj he0
      rw [← ee] at r1 r2
      have r1' : kv.1 = Sum.inr e.1 := r1.symm
      rw [r1'] at k1
      obtain ⟨i, t, e3, e4⟩ | ⟨y, t, e3, e4⟩ := keyIs_shape (show keyIs (Sum.inr e.1) en.key = true from k1)
      · first | cases e4 | cases e3
      · have : y = e.1 := by first | exact Sum.inr.inj e4.symm | exact Sum.inr.inj e3.symm | exact Sum.inr.inj e4 | exact Sum.inr.inj e3
        subst this
        refine ⟨e, t, kv.2, rfl, r2, ?_⟩
        rw [hg, k2]
        first | rw [e3] | rw [e4]
  -- the heap of the sort
  have hob : (h'.push { cls := .type "list", data := .seq (as.map Value.ref).toArray }).get? h'.objs.size = some (seqObj "list" (as.map Value.ref).toArray 0) := Heap.get?_push_size _ rfl
  have kb : ∀ b o, s.heap.get? b = some o → (h'.push { cls := .type "list", data := .seq (as.map Value.ref).toArray }).get? b = some o := fun b o e => Heap.get?_push_of_some _ (hk b o e)
  have ne0 : ∀ b o, h'.get? b = some o → b ≠ h'.objs.size := fun b o e => Nat.ne_of_lt (Heap.lt_size e)
  generalize hh2 : h'.push { cls := .type "list", data := .seq (as.map Value.ref).toArray } = h2 at hob kb ⊢
  have ka : ∀ b o, h'.get? b = some o → h2.get? b = some o := fun b o e => by rw [← hh2]; exact Heap.get?_push_of_some _ e
  have pin : ∀ (j : Nat) (b : Addr), as[j]? = some b → ∃ (e : Str × V) (u : Value), ks[j]? = some e ∧ RelV e.2 u ∧ PairF (TS.midHeap h2 h'.objs.size (as.map Value.ref)) (.ref b) e.1 u := by
    intro j b hj
    obtain ⟨e, t, u, he, r2, hg⟩ := pr j b hj
    exact ⟨e, u, he, r2, b, t, rfl, ⟨_, TS.midHeap_old (ne0 _ _ hg) (ka _ _ hg), rfl, 0, rfl⟩⟩
  have tx : ∀ (j : Nat) (b : Addr) (e : Str × V), as[j]? = some b → ks[j]? = some e → keyTxF (TS.midHeap h2 h'.objs.size (as.map Value.ref)) (.ref b) = e.1 := by
    intro j b e hj he
    obtain ⟨e', u, he', _, hp'⟩ := pin j b hj
    have ee : e' = e := Option.some.inj (he'.symm.trans he)
    rw [← ee]
    exact hp'.tx
  have at_ : ∀ v ∈ as.map Value.ref, ∃ (j : Nat) (b : Addr) (e : Str × V), v = .ref b ∧ as[j]? = some b ∧ ks[j]? = some e := by
    intro v hv'
    obtain ⟨b, hb, rfl⟩ := List.mem_map.mp hv'
    obtain ⟨j, hj⟩ := List.mem_iff_getElem?.mp hb
    obtain ⟨e, _, _, he, _⟩ := pr j b hj
    exact ⟨j, b, e, rfl, hj, he⟩
  have uniq : ∀ {u u' : Value} {b : Addr} {y y' : Str}, PairF (TS.midHeap h2 h'.objs.size (as.map Value.ref)) (.ref b) y u → PairF (TS.midHeap h2 h'.objs.size (as.map Value.ref)) (.ref b) y' u' → u = u' := by
    intro u u' b y y' ⟨a1, t1, e1, o1, g1, _, n1, d1⟩ ⟨a2, t2, e2, o2, g2, _, n2, d2⟩
    cases e1; cases e2
    rw [g1] at g2
    cases g2
    rw [d1] at d2
    simp only [Data.seq.injEq, Array.mk.injEq, List.cons.injEq, and_true] at d2
    exact d2.1.2
  let ρ : Str → Int := rankS (ks.map (·.1))
  have memk : ∀ {j : Nat} {e : Str × V}, ks[j]? = some e → e.1 ∈ ks.map (·.1) := fun h => List.mem_map.mpr ⟨_, List.mem_of_getElem? h, rfl⟩
  refine wpAny_call_entry PyProof.Rows.slot_list_sort ⟨_, hob, rfl⟩ PyProof.Rows.entry_list_sort
    (SK.plain_sort (s := { s with heap := h2, toks := tk }) (r := fun v => ρ (keyTxF (TS.midHeap h2 h'.objs.size (as.map Value.ref)) v)) hob (by rw [List.length_map]; omega) (fun h2' Qk hQk => ?_) fun ps out o1 o2 o3 => ⟨.none, rfl, ?_⟩) (PyProof.Rows.args_list_sort _)
  · refine kindF (s := { s with heap := TS.midHeap h2 h'.objs.size (as.map Value.ref), toks := tk }) (ρ := ρ) h2' (fun v hv' => ?_) (fun v hv' v' hv'' y u u' pu pu' => ?_) (fun v hv' u hu' => ?_) Qk hQk
    · obtain ⟨j, b, e, rfl, hj, he⟩ := at_ v hv'
      obtain ⟨e', u, _, _, hp'⟩ := pin j b hj
      exact ⟨e'.1, u, hp'⟩
    · obtain ⟨j, b, e, rfl, hj, he⟩ := at_ v hv'
      obtain ⟨j2, b2, e2, rfl, hj2, he2⟩ := at_ v' hv''
      obtain ⟨e', u1, he', r1, hp1⟩ := pin j b hj
      obtain ⟨e2', u2, he2', r2, hp2⟩ := pin j2 b2 hj2
      cases uniq hp1 pu
      cases uniq hp2 pu'
      have k1 : e'.1 = y := by rw [← hp1.tx, pu.tx]
      have k2 : e2'.1 = y := by rw [← hp2.tx, pu'.tx]
      have ej : j = j2 := by
        have n1 : (ks.map (·.1))[j]? = some y := by rw [List.getElem?_map, he']; exact congrArg some k1
        have n2 : (ks.map (·.1))[j2]? = some y := by rw [List.getElem?_map, he2']; exact congrArg some k2
        exact (List.getElem?_inj (List.getElem?_eq_some_iff.mp n1).1 hnd).mp (n1.trans n2.symm)
      subst ej
      have ee : e' = e2' := Option.some.inj (he'.symm.trans he2')
      subst ee
      exact flat_same (hv e' (List.mem_of_getElem? he')) r1 r2
    · obtain ⟨j, b, e, rfl, hj, he⟩ := at_ v hv'
      obtain ⟨j2, b2, e2, rfl, hj2, he2⟩ := at_ u hu'
      show decide ((keyTxF (TS.midHeap h2 h'.objs.size (as.map Value.ref)) (.ref b)).cps.toList < (keyTxF (TS.midHeap h2 h'.objs.size (as.map Value.ref)) (.ref b2)).cps.toList) = decide (ρ (keyTxF (TS.midHeap h2 h'.objs.size (as.map Value.ref)) (.ref b)) < ρ (keyTxF (TS.midHeap h2 h'.objs.size (as.map Value.ref)) (.ref b2)))
      rw [tx j b e hj he, tx j2 b2 e2 hj2 he2]
      exact rank_ok (memk he) (memk he2)
  · show EP X pins σ Q (.ref h'.objs.size) { s with heap := sortedHeap h2 h'.objs.size (as.map Value.ref) out, toks := tk }
    obtain ⟨zs, pz, ez⟩ := perm_lift (fun z : Addr × Str × V => (Value.ref z.1, Value.ref z.1)) o2 (as.zip ks) (DX.zip_self Value.ref as ks lak)
    have idx : ∀ z ∈ zs, ∃ j : Nat, as[j]? = some z.1 ∧ ks[j]? = some z.2 := by
      intro z' hz'
      obtain ⟨j, hj⟩ := List.mem_iff_getElem?.mp (pz.mem_iff.mp hz')
      exact ⟨j, List.getElem?_zip_eq_some.mp hj⟩
    have hout : out.toList = zs.map fun z => Value.ref z.1 := by
      rw [o1, ← ez, List.map_map]
      all_goals rfl
    have hperm : (zs.map (·.2)).Perm ks := by
      have e := pz.map (·.2)
      have m2 : (as.zip ks).map (·.2) = ks := List.map_snd_zip (by rw [lak]; exact Nat.le_refl _)
      rw [m2] at e
      exact e
    have hsort : (zs.map (·.2)).Pairwise (fun e f => ltStr e.1 f.1 = true) := by
      rw [← ez, List.pairwise_map] at o3
      rw [List.pairwise_map]
      refine List.Pairwise.imp_of_mem (fun {x y} hx hy h => ?_) o3
      obtain ⟨j, j1, j2⟩ := idx x hx
      obtain ⟨i, i1, i2⟩ := idx y hy
      have h' : ρ (keyTxF (TS.midHeap h2 h'.objs.size (as.map Value.ref)) (.ref x.1)) ≤ ρ (keyTxF (TS.midHeap h2 h'.objs.size (as.map Value.ref)) (.ref y.1)) := h
      rw [tx j _ _ j1 j2, tx i _ _ i1 i2] at h'
      refine ltStr_iff.mpr (List.not_lt.mp fun z => ?_)
      have := rank_ok (memk i2) (memk j2)
      rw [decide_eq_true z, eq_comm, decide_eq_true_eq] at this
      exact absurd h' (Int.not_le.mpr this)
    -- behind the sort
    have kF : ∀ b o, b ≠ h'.objs.size → h2.get? b = some o → (sortedHeap h2 h'.objs.size (as.map Value.ref) out).get? b = some o := fun b o hb e => (PyProof.Rows.sortedHeap_old hb (Heap.lt_size e)).trans e
    have kS : ∀ b o, s.heap.get? b = some o → (sortedHeap h2 h'.objs.size (as.map Value.ref) out).get? b = some o := fun b o e => kF b o (ne0 _ _ (hk b o e)) (kb b o e)
    obtain ⟨eF, heF⟩ := PyProof.Rows.sortedHeap_at (vs := as.map Value.ref) (out := out) hob
    have I1 : Inv X pins σ H { s with heap := sortedHeap h2 h'.objs.size (as.map Value.ref) out, toks := tk } := I.kept (t' := tk) kS
    have hn0 : H h'.objs.size = none := I.hok.fresh (Nat.le_of_lt hlt)
    have hlen : (zs.map fun z => V.ref z.1).length ≤ sizeLine := by
      have e := hperm.length_eq
      rw [List.length_map] at e
      rw [List.length_map, sizeLine_eq]
      omega
    have rv : Vals (zs.map fun z => V.ref z.1) out.toList := by
      rw [hout]
      exact vals_maps (fun z : Addr × Str × V => V.ref z.1) (fun z => Value.ref z.1) zs fun _ _ => rfl
    have I2 : Inv X pins σ (upd H h'.objs.size (.lst (zs.map fun z => V.ref z.1))) { s with heap := sortedHeap h2 h'.objs.size (as.map Value.ref) out, toks := tk } :=
      I1.take (h' := sortedHeap h2 h'.objs.size (as.map Value.ref) out) (t' := tk) (fun b ob _ e => e) (I.fpOk (Nat.le_of_lt hlt) hn0) ⟨hlen, out.toList, eF, rv, heF⟩
    obtain ⟨H2, I3, g, qt⟩ := DX.takeT (P := fun b vs => ∃ (j : Nat) (e : Str × V), as[j]? = some b ∧ ks[j]? = some e ∧ vs = [.str e.1, e.2]) I as _ I2 nd fun b hb => by
      obtain ⟨j, hj⟩ := List.mem_iff_getElem?.mp hb
      obtain ⟨e, t, u, he, r2, hg⟩ := pr j b hj
      have hbl : s.heap.objs.size ≤ b := Nat.le_of_lt (hG.above b hb)
      refine ⟨hbl, ?_, [.str e.1, e.2], ⟨j, e, hj, he, rfl⟩, fun H3 => ⟨(by rw [sizeLine_eq]; show 2 ≤ 16777216; omega), [Value.str e.1 t, u], .cons ⟨t, rfl⟩ (.cons r2 .nil), ⟨_, kF _ _ (ne0 _ _ hg) (ka _ _ hg), rfl, 0, rfl⟩⟩⟩
      rw [upd_ne (ne0 _ _ hg)]
      exact I.hok.fresh hbl
    have gr : ∀ b o, H b = some o → H2 b = some o := fun b o e => g b o (by rw [upd_ne (ne_of_none e hn0)]; exact e)
    have hl2 := g _ _ (upd_same (H := H) (a := h'.objs.size) (o := .lst (zs.map fun z => V.ref z.1)))
    let H3 : Hp := fun b => if b = h'.objs.size then none else H2 b
    have eH : upd H3 h'.objs.size (.lst (zs.map fun z => V.ref z.1)) = H2 := by
      funext b
      by_cases e : b = h'.objs.size
      · subst e; rw [upd_same, hl2]
      · rw [upd_ne e]; show (if b = h'.objs.size then none else H2 b) = H2 b; rw [if_neg e]
    have h3 : ∀ b, b ≠ h'.objs.size → H3 b = H2 b := fun b e => by show (if b = h'.objs.size then none else H2 b) = H2 b; rw [if_neg e]
    have qq := q H3 h'.objs.size zs (fun b o e => by rw [h3 b (ne_of_none e hn0)]; exact gr b o e) (by show (if h'.objs.size = h'.objs.size then none else _) = none; rw [if_pos rfl]) hnd hperm hsort fun z' hz' => by
      obtain ⟨i, i1, i2⟩ := idx z' hz'
      obtain ⟨vs, ⟨j, e, j1, j2, ev⟩, hH⟩ := qt z'.1 (List.mem_of_getElem? i1)
      have eij : i = j := (List.getElem?_inj (List.getElem?_eq_some_iff.mp i1).1 nd).mp (i1.trans j1.symm)
      subst eij
      have ee : e = z'.2 := Option.some.inj (j2.symm.trans i2)
      obtain ⟨_, _, _, _, _, hg'⟩ := pr i z'.1 i1
      rw [h3 _ (ne0 _ _ hg'), hH, ev, ee]
    rw [eH] at qq
    exact ⟨.ref h'.objs.size, H2, I3, rfl, qq⟩

/-! ### the model's side -/
section
variable {K : PySem.W.Frag} {mg : Str → Option Value} {H H' : Hp} {φ : Fi} {S : Store}
theorem SR.more (r : SR K mg H φ S) (sub : ∀ b o, H b = some o → H' b = some o) : Ext H H' φ φ ∧ SR K mg H' φ S := by
  have x : Ext H H' φ φ := ⟨⟨[], by simp⟩, rfl, fun p o h _ => sub p o h, fun p h n => absurd h n, fun p xs h => sub p _ h, fun p o u h => sub p _ h⟩
  refine ⟨x, r.len, r.nd, fun a ob p h e => (r.at_ a ob p h e).mono x ?_, r.hidden x⟩
  obtain ⟨o, ho, _⟩ := r.ho (List.mem_of_getElem? e)
  rw [ho]; exact sub p o ho
end
def atmW : W → Bool
  | .int _ => true
  | .str _ => true
  | _ => false
def vOf : W → V
  | .int i => .int i
  | .str x => .str x
  | _ => .non
/-- a dict's entries if its keys are texts and its values plain -/
def txtKs : List (Key × W) → Option (List (Str × W))
  | [] => some []
  | (.inr x, w) :: r => if atmW w = true then (txtKs r).map fun l => (x, w) :: l else none
  | (.inl _, _) :: _ => none
def lePair (a b : Str × W) : Bool := ltStr a.1 b.1
def srtP (ps : List (Str × W)) : List (Str × W) := ps.mergeSort lePair
theorem srtP_perm {xs : List (Str × W)} : (srtP xs).Perm xs := List.mergeSort_perm xs lePair
theorem srtP_pw {xs : List (Str × W)} : (srtP xs).Pairwise fun a b => lePair a b = true := List.pairwise_mergeSort (le := lePair) (fun _ _ _ => ltStr_trans) (fun _ _ => ltStr_total) xs
/-- sorted(d.items()) -/
def eSrtI (mm : Bool) (a : EM) : EM := fun e S => (a e S).bind fun w S1 => match (dcW w S1).bind txtKs with
  | some ps => if ps.length < 64 then .ok (mkL mm ((srtP ps).map fun p => .tup [.str p.1, p.2]) S1).1 (mkL mm ((srtP ps).map fun p => .tup [.str p.1, p.2]) S1).2 else .bad
  | none => .bad
section
variable {K : PySem.W.Frag} {mg : Str → Option Value} {H : Hp} {φ : Fi} {S : Store}
theorem vOf_ok {w : W} {v : V} (h : atmW w = true) (r : VR K mg H φ w v) : v = vOf w := by
  cases w <;> first | (cases h; done) | (simpa [VR, vOf] using r)
theorem VR_vOf {w : W} (h : atmW w = true) : VR K mg H φ w (vOf w) := by
  cases w <;> first | (cases h; done) | simp [VR, vOf]
theorem txtKs_ok : ∀ {kvs : List (Key × W)} {us : List (Key × V)} {ps : List (Str × W)}, txtKs kvs = some ps → kvs.map (·.1) = us.map (·.1) → VRs K mg H φ (kvs.map (·.2)) (us.map (·.2)) →
    us = (ps.map fun p => (p.1, vOf p.2)).map entF ∧ ∀ p ∈ ps, atmW p.2 = true
  | [], us, ps, h, e, r => by
    cases h
    cases us with
    | nil => exact ⟨rfl, fun p hp => by simp at hp⟩
    | cons _ _ => simp at e
  | (k, w) :: kvs, us, ps, h, e, r => by
    cases us with
    | nil => simp at e
    | cons u us =>
      obtain ⟨k', v⟩ := u
      simp only [List.map_cons, List.cons.injEq] at e
      obtain ⟨rfl, e2⟩ := e
      simp only [List.map_cons, VRs] at r
      obtain ⟨v', rr, e3, r1, r2⟩ := r
      simp only [List.cons.injEq] at e3
      obtain ⟨rfl, rfl⟩ := e3
      cases k with
      | inl i => cases h
      | inr x =>
        simp only [txtKs] at h
        split at h
        · rename_i hf
          cases ht : txtKs kvs with
          | none => rw [ht] at h; cases h
          | some l =>
            rw [ht] at h
            cases h
            obtain ⟨i1, i2⟩ := txtKs_ok ht e2 r2
            refine ⟨?_, fun p hp => ?_⟩
            · simp only [List.map_cons]
              rw [← i1, vOf_ok hf r1]
            · rcases List.mem_cons.mp hp with rfl | hp
              · exact hf
              · exact i2 p hp
        · cases h
end
section
variable {X : Cx} {Wx : WX} {o : Expr} {O : EM} {pos apos cpos p : Pos} {mm : Bool}
theorem m_eBad {e : Expr} : ME X Wx e eBad := ⟨fun pins s σ H Q I ⟨_, _, _, _, _, q⟩ => q.elim⟩
theorem m_srtI (hc : X.calm = true) (ho : ME X Wx o O) (hg : Gl X "sorted") (hm : X.mg "sorted" = none)
    (hbase : attributeBase o "items" X.env (eval o X.env) = eval o X.env := by rfl) (hline : (apos.endLine == cpos.line) = true := by rfl)
    (he : starEach [.Call (.Attribute o "items" apos) [] [] cpos] X.env = (false, eval (.Call (.Attribute o "items" apos) [] [] cpos) X.env) :: starEach [] X.env := by rfl) (hpl : (backTo pos (starEach [] X.env)).any (·.1) = false := by rfl) :
    ME X Wx (.Call (.Name "sorted" p) [.Call (.Attribute o "items" apos) [] [] cpos] [] pos) (eSrtI mm O) :=
  leE (pe_callB (cr_sortF hc) hg hm boot_sorted (pa_cons (pe_bm0 PySem.F.plainAttrs_dict PySem.F.slot_dict_items PySem.F.type_dict_items mt_itemsK ho hbase hline) pa_nil he) (by decide) (by decide) he hpl) fun σ H Q ⟨en, S, φ, er, sr, q⟩ => by
    refine ⟨en, S, φ, er, sr, PostR.bind q fun w S1 v H1 φ1 x1 s1 r1 q1 => ?_⟩
    cases hd : dcW w S1 with
    | none => rw [hd] at q1; exact q1.elim
    | some kvs =>
    rw [hd] at q1
    simp only [Option.bind_some] at q1
    cases ht : txtKs kvs with
    | none => rw [ht] at q1; exact q1.elim
    | some ps =>
    rw [ht] at q1
    dsimp only at q1
    by_cases h64 : ps.length < 64
    case neg => rw [if_neg h64] at q1; exact q1.elim
    rw [if_pos h64] at q1
    obtain ⟨a, us, rfl, ha, k1, k2⟩ := dcW_ok s1 r1 hd
    obtain ⟨e1, hf⟩ := txtKs_ok ht k1 k2
    refine ⟨.inr (.inr (.inl ⟨rfl, .inl ⟨us, ha⟩⟩)), a, us, rfl, rfl, ha, fun p hp => ?_⟩
    obtain ⟨x2, s2⟩ := s1.extra (o := DX.itemsO p a) hp
    refine ⟨p, a, ps.map fun p => (p.1, vOf p.2), rfl, upd_same, by rw [upd_ne (ne_of_none ha hp), ha, e1], by rw [List.length_map]; exact h64, fun e he' => ?_, fun H' l zs sub hl nd pm pw ht' => ?_⟩
    · obtain ⟨q', hq, rfl⟩ := List.mem_map.mp he'
      have := hf q' hq
      cases hw : q'.2 with
      | int i => exact .inl ⟨i, by simp [vOf]⟩
      | str x => exact .inr ⟨x, by simp [vOf]⟩
      | _ => rw [hw] at this; cases this
    · obtain ⟨x3, s3⟩ := s2.more sub
      have es : zs.map (·.2) = (srtP ps).map fun p => (p.1, vOf p.2) := by
        refine List.Perm.eq_of_pairwise (le := fun a b : Str × V => ltStr a.1 b.1 = true) (fun a b ha hb h1 h2 => ?_) pw (by rw [List.pairwise_map]; exact srtP_pw) (pm.trans (srtP_perm.symm.map _))
        have e1 := ltStr_antisymm h1 h2
        have ha' := pm.mem_iff.mp ha
        have hb' : b ∈ ps.map fun p => (p.1, vOf p.2) := (srtP_perm.map _).mem_iff.mp hb
        obtain ⟨i, hi⟩ := List.mem_iff_getElem?.mp ha'
        obtain ⟨j, hj⟩ := List.mem_iff_getElem?.mp hb'
        have n1 : ((ps.map fun p => (p.1, vOf p.2)).map (·.1))[i]? = some b.1 := by rw [List.getElem?_map, hi]; exact congrArg some e1
        have n2 : ((ps.map fun p => (p.1, vOf p.2)).map (·.1))[j]? = some b.1 := by rw [List.getElem?_map, hj]; rfl
        have ij := (List.getElem?_inj (List.getElem?_eq_some_iff.mp n1).1 nd).mp (n1.trans n2.symm)
        subst ij
        exact Option.some.inj (hi.symm.trans hj)
      have rv : VRs X.K X.mg H' φ1 ((srtP ps).map fun p => W.tup [.str p.1, p.2]) (zs.map fun z => V.ref z.1) := by
        have gen : ∀ (qs : List (Str × W)) (zs : List (Addr × Str × V)), (∀ q ∈ qs, atmW q.2 = true) → zs.map (·.2) = qs.map (fun p => (p.1, vOf p.2)) → (∀ z ∈ zs, H' z.1 = some (.tup [.str z.2.1, z.2.2])) →
            VRs X.K X.mg H' φ1 (qs.map fun p => W.tup [.str p.1, p.2]) (zs.map fun z => V.ref z.1) := by
          intro qs
          induction qs with
          | nil =>
            intro zs _ e _
            cases zs with
            | nil => simp [VRs]
            | cons _ _ => simp at e
          | cons q qs ih =>
            intro zs hq e h
            cases zs with
            | nil => simp at e
            | cons z zs =>
              simp only [List.map_cons, List.cons.injEq] at e
              obtain ⟨e1, e2⟩ := e
              have hz := h z (List.mem_cons_self ..)
              rw [e1] at hz
              simp only [List.map_cons, VRs]
              refine ⟨_, _, rfl, ?_, ih zs (fun q' h' => hq q' (List.mem_cons_of_mem _ h')) e2 fun z' h' => h z' (List.mem_cons_of_mem _ h')⟩
              simp only [VR]
              refine ⟨z.1, _, rfl, .inl hz, ?_⟩
              simp only [VRs]
              exact ⟨_, _, rfl, by simp only [VR], _, _, rfl, VR_vOf (hq q (List.mem_cons_self ..)), rfl⟩
        exact gen (srtP ps) zs (fun q hq => hf q (srtP_perm.mem_iff.mp hq)) es ht'
      exact new_lst (m := mm) s3 rv (fun z H2 φ2 x4 s4 r4 => q1 z H2 φ2 (x2.trans (x3.trans x4)) s4 r4) l hl
end
/-! ### dict(d) -/
def dcopyN (mm : Bool) : PN := fun ws S => match ws with
  | [w] => match dcW w S with
    | some kvs => some (mkD mm kvs S)
    | none => none
  | _ => none
def rDictC : List V → Hp → VK → Prop := fun vs H Q => ∃ (a : Addr) (kvs : List (Key × V)), vs = [.ref a] ∧ H a = some (.dK kvs) ∧ ∀ p, H p = none → Q (.ref p) (upd H p (.dK kvs))
theorem call_dictC {X : Cx} : CallR X (.type "dict") rDictC := by
  intro pins s σ H xs us Q I r h
  obtain ⟨a, kvs, rfl, ha, q⟩ := h
  obtain rfl := Vals.ref1 r
  exact d_copyOf I (.inl ha) fun p s' hp I' => ⟨.ref p, _, I', rfl, q p hp⟩
section
variable {K : PySem.W.Frag} {mg : Str → Option Value} {H : Hp} {φ : Fi} {S : Store} {mm : Bool}
theorem new_dic {kvs : List (Key × W)} {us : List (Key × V)} {Q : VK} (sr : SR K mg H φ S) (rr : KVR K mg H φ kvs us)
    (q : ∀ z H' φ', Ext H H' φ φ' → SR K mg H' φ' (mkD mm kvs S).2 → VR K mg H' φ' (mkD mm kvs S).1 z → Q z H') (p : Addr) (hp : H p = none) : Q (.ref p) (upd H p (.dK us)) := by
  cases mm with
  | true =>
    obtain ⟨x, s', l⟩ := sr.push (ob := .dic kvs) (o := .dK us) hp fun H' φ' x' e => ⟨us, e, rr.mono x'⟩
    exact q (.ref p) _ _ x s' (by simp only [mkD_t, VR]; exact ⟨p, rfl, l⟩)
  | false =>
    obtain ⟨x, s'⟩ := sr.extra (o := .dK us) hp
    exact q (.ref p) _ _ x s' (by simp only [mkD_f, VR]; exact ⟨p, us, rfl, sr.notin hp, upd_same, rr.1.symm, (rr.mono x).2⟩)
theorem snd_dcopy : SndN K mg (dcopyN mm) rDictC := fun ws S u S' H φ vs Q s r h q => by
  unfold dcopyN at h
  split at h
  · rename_i w
    obtain ⟨v, rfl, r1⟩ := one r
    split at h
    · rename_i kvs hd
      obtain ⟨a, us, rfl, ha, rr⟩ := dcW_ok s r1 hd
      obtain ⟨e1, e2⟩ := Prod.mk.inj (Option.some.inj h)
      subst e1 e2
      exact ⟨a, us, rfl, ha, new_dic s rr q⟩
    · cases h
  · cases h
end
end Sh

set_option Elab.async false
set_option linter.all false
set_option maxRecDepth 100000
set_option maxHeartbeats 4000000
/-! ShF: set(xs), xs a list or a tuple of texts and numbers. -/
namespace Sh
open PySem PySem.Calls PySem.Spec PyProof.Rows L2
theorem dedup_snoc (ks : List Key) (k : Key) : dedupK (ks ++ [k]) = if k ∈ dedupK ks then dedupK ks else dedupK ks ++ [k] := by
  unfold dedupK
  rw [List.foldl_append]
  rfl
section
variable {P : Program} {w : World} {A : Around} {E : Value → Shared → Prop} {s : Shared}
theorem set_update_keys {I : Addr} {fp wr : List Addr} {G : Array GenState → Array GenState → Prop} {n : Nat} {Pv : Nat → Value → Prop} {St : Nat → Shared → Prop} {R : Result → Shared → Prop}
    (W : WalksS P w A.in1 I fp wr G n Pv St) (S : Addr) (hSf : S ∉ fp) (ks : List Key) (hn : n = ks.length) (hroom : ks.length + 1 < scanBound) (hval : ∀ i v, Pv i v → ∃ k, ks[i]? = some k ∧ keyIs k v = true ∧ v.scannable = true) :
    ∀ (k i : Nat) (s : Shared), n - i = k → i ≤ n → St i s → Ky P w s.heap S (dedupK (ks.take i)) →
      (∀ s', Moved (S :: wr) G s s' → Ky P w s'.heap S (dedupK ks) → R (.ok (.ret .none)) s') →
      codeAny (model P w) A (.builtin "set.update.loop" ⟨[.ref S, .ref I], []⟩) R s := by
  have hSw : S ∉ wr := fun h => hSf (W.sub _ h)
  have hsub : ∀ b ∈ wr, b ∈ S :: wr := fun b hb => List.mem_cons_of_mem _ hb
  intro k
  induction k with
  | zero =>
    intro i s hk' hi hst hS hR
    have hin : i = n := by omega
    subst hin
    refine codeAny_builtin F.entry_set_update_loop ?_
    rw [Around.under_plainId F.plain_set_update_loop _]
    show wpAny _ A.in1 (pyNext (.ref I) >>= _) _ _ s
    refine wpAny_bind (W.done s _ _ hst fun s' hm => ?_)
    show wpAny _ A.in1 (ret Value.none) _ _ s'
    rw [hn, List.take_length] at hS
    exact wpAny_pure (hR s' (hm.mono hsub) (hS.at_ fun o e => hm.heap S o hSw e))
  | succ k ih =>
    intro i s hk' hi hst hS hR
    have hlt : i < n := by omega
    refine codeAny_builtin F.entry_set_update_loop ?_
    rw [Around.under_plainId F.plain_set_update_loop _]
    show wpAny _ A.in1 (pyNext (.ref I) >>= _) _ _ s
    refine wpAny_bind (W.item i s _ _ hlt hst fun v s' hP hst' hm => ?_)
    obtain ⟨key, hkey, hk, hs⟩ := hval i v hP
    have hS' : Ky P w s'.heap S (dedupK (ks.take i)) := hS.at_ fun o e => hm.heap S o hSw e
    show wpAny _ A.in1 (holding [v] (setAdd S v) >>= _) _ _ s'
    refine wpAny_bind (wpAny_holding ?_)
    unfold setAdd
    refine wpAny_holding ?_
    refine wpAny_bind ((mixKind P w).pyHash (show (mixKind P w).is key v = true from hk) ?_)
    have hl1 := dedup_len (ks.take i)
    rw [List.length_take] at hl1
    refine ky_hashed (s := { s' with toks := s'.toks + 1 }) hk hs hS' (by omega) fun b h' hsb hS2 => ?_
    have ht : ks.take (i + 1) = ks.take i ++ [key] := by rw [List.take_add_one, hkey]; rfl
    rw [← dedup_snoc, ← ht] at hS2
    refine wpAny_pure ⟨plainId_quiet F.plain_set_update_loop _, ih (i + 1) _ (by omega) hlt (W.frame _ s' _ _ hst' (Nat.le_add_right _ _) fun b hb o e => ?_) hS2 fun s'' hm'' hS'' => ?_⟩
    · rw [hsb.2 b (fun h : b = S => hSf (by rw [← h]; exact hb))]; exact e
    · refine hR s'' (Moved.trans W.gtrans ((hm.mono hsub).then_heap (Nat.le_add_right _ _) fun b o hb e => ?_) hm'') hS''
      rw [hsb.2 b (fun h : b = S => hb (by rw [h]; exact List.mem_cons_self))]; exact e

theorem items_len {P : Program} {w : World} : ∀ {ks : List Key} {vs : List Value}, ItemsAre (mixKind P w) ks vs → vs.length = ks.length
  | _, _, .nil => rfl
  | _, _, .cons _ t => by rw [List.length_cons, List.length_cons, items_len t]
theorem items_get {P : Program} {w : World} : ∀ {ks : List Key} {vs : List Value} {i : Nat} {v : Value}, ItemsAre (mixKind P w) ks vs → vs[i]? = some v → ∃ k, ks[i]? = some k ∧ keyIs k v = true
  | _, _, i, v, .nil, h => by simp at h
  | _, _, 0, v, .cons (k := k) h1 _, h => by
    simp only [List.getElem?_cons_zero] at h
    cases h
    exact ⟨_, rfl, h1⟩
  | _, _, i + 1, v, .cons _ t, h => by
    simp only [List.getElem?_cons_succ] at h ⊢
    exact items_get t h

set_option maxHeartbeats 3200000 in
theorem call_set_list {l : Addr} {items : Array Value} (ks : List Key) {Q : Value → Shared → Prop} (hh : A.handled = none) (hl : s.heap.IsList l items) (hit : ItemsAre (mixKind P w) ks items.toList) (hsc : ∀ v ∈ items.toList, v.scannable = true) (hroom : ks.length + 1 < scanBound)
    (h : ∀ (h' : Heap) (tk : Nat), Ky P w h' s.heap.objs.size (dedupK ks) → (∀ b o, s.heap.get? b = some o → h'.get? b = some o) → Q (.ref s.heap.objs.size) { s with heap := h', toks := tk }) :
    wpAny (model P w) A (call (.type "set") [.ref l]) Q E s := by
  have hisz : items.size = ks.length := by
    rw [← Array.length_toList]; exact items_len hit
  obtain ⟨c, tl, hmro⟩ := F.called_set.mro
  have hmade := F.called_set.made
  have hsub := F.called_set.sub
  refine wpAny_call (codeAny_of_tree ?_)
  show wpAny _ _ (callAny (.type "set") _) _ _ _
  refine wpAny_pure ⟨Code.quiet_builtin _ (by decide +kernel), codeAny_builtin F.entry_type_call ?_⟩
  rw [Around.under_plain (weight_type_call_type "set" [.ref l] []) rfl]
  have h1 := F.called_set.notType
  have h2 := F.called_set.canCreate
  have hct := F.typeCall_set_1 (.ref l)
  repeat (any_goals (first | assumption | wp_step))

  refine codeAny_mono (code_set_led1 (.ref l) (E := E) (Q₁ := fun obj s₁ => obj = .ref s.heap.objs.size ∧ s₁ = { s with heap := s.heap.push { cls := .type "set", dict := none, data := .set #[] 0 (.fresh 0 0 (!w.params.followText "set-order")) } }) ⟨rfl, rfl⟩) fun r s₁ hr => ?_
  cases r with
  | error e => exact hr
  | ok fl =>
    cases fl with
    | ret obj =>
      obtain ⟨rfl, rfl⟩ := hr
      have hS : (s.heap.push { cls := .type "set", dict := none, data := .set #[] 0 (.fresh 0 0 (!w.params.followText "set-order")) }).get? s.heap.objs.size = some { cls := .type "set", dict := none, data := .set #[] 0 (.fresh 0 0 (!w.params.followText "set-order")) } := Heap.get?_push_size _ rfl
      have hT : Shared.TypeIs { s with heap := s.heap.push { cls := .type "set", dict := none, data := .set #[] 0 (.fresh 0 0 (!w.params.followText "set-order")) } } (.ref s.heap.objs.size) "set" := ⟨_, hS, rfl⟩
      have hli := F.called_set.init.lookup
      have hbi := F.called_set.init.bind (.ref s.heap.objs.size)
      repeat (any_goals (first | assumption | wp_step))

      refine codeAny_mono (codeAny_call_builtin (R := wants (fun r s₂ => r = .none ∧ ∃ h' tk, s₂ = { s with heap := h', toks := tk } ∧ Ky P w h' s.heap.objs.size (dedupK ks) ∧
          (∀ b o, s.heap.get? b = some o → h'.get? b = some o)) E) F.called_set.init.plain F.entry_set_init (check_set_init_1 hT ?_)) fun r₂ s₂ hr₂ => ?_
      · obtain ⟨ol, hol, hcl, nl, hdl⟩ := hl
        obtain ⟨ocls, odict, odata, oslots⟩ := ol
        simp only at hcl hdl
        subst hcl; subst hdl
        have hol' : (s.heap.push { cls := .type "set", dict := none, data := .set #[] 0 (.fresh 0 0 (!w.params.followText "set-order")) }).get? l = some { cls := .type "list", dict := odict, data := .seq items nl, slots := oslots } := Heap.get?_push_of_some _ hol
        have hsls := F.sub_list_set
        have hslf := F.sub_list_frozenset
        have hne : (Value.type "list" == Value.type "dict") = false := by decide
        have hl1 : (s.heap.push { cls := .type "set", dict := none, data := .set #[] 0 (.fresh 0 0 (!w.params.followText "set-order")) }).IsList l items := ⟨_, hol', rfl, nl, rfl⟩
        unfold Builtin.«set.__init__» noKeywords Builtin.Frozenset.updateFrom
        generalize hPI : pyIter = PI
        wp_walk
        subst hPI

        refine wpAny_pyIter_list hl1 ?_
        refine wpAny_bind (wpAny_runValue ?_)
        have hlS : l < s.heap.objs.size := Heap.lt_size hol
        have hh3 : A.in1.in1.in1.handled = none := by simp [hh]
        have hneI : l ≠ (s.heap.push { cls := .type "set", dict := none, data := .set #[] 0 (.fresh 0 0 (!w.params.followText "set-order")) }).objs.size := by
          rw [Heap.size_push]; exact Nat.ne_of_lt (Nat.lt_succ_of_lt hlS)
        have hSf : s.heap.objs.size ∉ [(s.heap.push { cls := .type "set", dict := none, data := .set #[] 0 (.fresh 0 0 (!w.params.followText "set-order")) }).objs.size, l] := by
          rw [Heap.size_push]; simp only [List.mem_cons, List.mem_singleton, List.not_mem_nil, or_false, not_or]
          exact ⟨Nat.ne_of_lt (Nat.lt_succ_self _), Nat.ne_of_gt hlS⟩
        have hval : ∀ (i : Nat) (v : Value), items[i]? = some v → ∃ k, ks[i]? = some k ∧ keyIs k v = true ∧ v.scannable = true := fun i v hv => by
          rw [← Array.getElem?_toList] at hv
          obtain ⟨k, hk, q⟩ := items_get hit hv
          exact ⟨k, hk, q, hsc v (List.mem_of_getElem? hv)⟩
        refine set_update_keys ((Walks.list hh3 _ l hneI items).toS) s.heap.objs.size
          hSf ks hisz hroom hval (items.size - 0) 0 _ (by omega) (Nat.zero_le _)
          ⟨⟨_, Heap.get?_push_size _ rfl, rfl, rfl⟩, (hl1.push _)⟩ ?hS0 ?hR
        case hS0 =>
          exact (ky_fresh (P := P) (w := w) (h := s.heap)).at_ fun o e => Heap.get?_push_of_some _ e
        case hR =>
          intro s' hm hS'
          obtain ⟨h', g2, d', tk', os'⟩ := s'
          have eg : g2 = s.gens := hm.gens
          have ed : d' = s.drawn := hm.drawn
          have eo : os' = s.os := hm.os
          subst eg; subst ed; subst eo
          show wpAny _ _ _ _ _ _
          refine wpAny_pure ?_
          show wpAny _ _ (ret Value.none) _ _ _
          refine wpAny_pure ⟨rfl, h', tk', rfl, hS', fun b o e => ?_⟩
          have hb := Heap.lt_size e
          have hb1 : b ≠ s.heap.objs.size := Nat.ne_of_lt hb
          have hb2 : b ≠ (s.heap.push { cls := .type "set", dict := none, data := .set #[] 0 (.fresh 0 0 (!w.params.followText "set-order")) }).objs.size := by
            rw [Heap.size_push]; exact Nat.ne_of_lt (Nat.lt_succ_of_lt hb)
          exact hm.heap b o (by simp only [List.mem_cons, List.mem_singleton, List.not_mem_nil, or_false, not_or]; exact ⟨hb1, hb2⟩) (Heap.get?_push_of_some _ (Heap.get?_push_of_some _ e))
      · cases r₂ with
        | error e => exact hr₂
        | ok fl₂ =>
          cases fl₂ with
          | ret r =>
            obtain ⟨rfl, h', tk, rfl, hS', hk'⟩ := hr₂
            repeat (any_goals (first | assumption | wp_step))
            exact h _ _ hS' hk'
          | _ => exact hr₂.elim
    | _ => exact hr.elim

set_option maxHeartbeats 3200000 in
theorem call_set_tuple {l : Addr} {items : Array Value} (ks : List Key) {Q : Value → Shared → Prop} (hh : A.handled = none) (hl : s.heap.IsTuple l items) (hit : ItemsAre (mixKind P w) ks items.toList) (hsc : ∀ v ∈ items.toList, v.scannable = true) (hroom : ks.length + 1 < scanBound)
    (h : ∀ (h' : Heap) (tk : Nat), Ky P w h' s.heap.objs.size (dedupK ks) → (∀ b o, s.heap.get? b = some o → h'.get? b = some o) → Q (.ref s.heap.objs.size) { s with heap := h', toks := tk }) :
    wpAny (model P w) A (call (.type "set") [.ref l]) Q E s := by
  have hisz : items.size = ks.length := by
    rw [← Array.length_toList]; exact items_len hit
  obtain ⟨c, tl, hmro⟩ := F.called_set.mro
  have hmade := F.called_set.made
  have hsub := F.called_set.sub
  refine wpAny_call (codeAny_of_tree ?_)
  show wpAny _ _ (callAny (.type "set") _) _ _ _
  refine wpAny_pure ⟨Code.quiet_builtin _ (by decide +kernel), codeAny_builtin F.entry_type_call ?_⟩
  rw [Around.under_plain (weight_type_call_type "set" [.ref l] []) rfl]
  have h1 := F.called_set.notType
  have h2 := F.called_set.canCreate
  have hct := F.typeCall_set_1 (.ref l)
  repeat (any_goals (first | assumption | wp_step))

  refine codeAny_mono (code_set_led1 (.ref l) (E := E) (Q₁ := fun obj s₁ => obj = .ref s.heap.objs.size ∧ s₁ = { s with heap := s.heap.push { cls := .type "set", dict := none, data := .set #[] 0 (.fresh 0 0 (!w.params.followText "set-order")) } }) ⟨rfl, rfl⟩) fun r s₁ hr => ?_
  cases r with
  | error e => exact hr
  | ok fl =>
    cases fl with
    | ret obj =>
      obtain ⟨rfl, rfl⟩ := hr
      have hS : (s.heap.push { cls := .type "set", dict := none, data := .set #[] 0 (.fresh 0 0 (!w.params.followText "set-order")) }).get? s.heap.objs.size = some { cls := .type "set", dict := none, data := .set #[] 0 (.fresh 0 0 (!w.params.followText "set-order")) } := Heap.get?_push_size _ rfl
      have hT : Shared.TypeIs { s with heap := s.heap.push { cls := .type "set", dict := none, data := .set #[] 0 (.fresh 0 0 (!w.params.followText "set-order")) } } (.ref s.heap.objs.size) "set" := ⟨_, hS, rfl⟩
      have hli := F.called_set.init.lookup
      have hbi := F.called_set.init.bind (.ref s.heap.objs.size)
      repeat (any_goals (first | assumption | wp_step))

      refine codeAny_mono (codeAny_call_builtin (R := wants (fun r s₂ => r = .none ∧ ∃ h' tk, s₂ = { s with heap := h', toks := tk } ∧ Ky P w h' s.heap.objs.size (dedupK ks) ∧
          (∀ b o, s.heap.get? b = some o → h'.get? b = some o)) E) F.called_set.init.plain F.entry_set_init (check_set_init_1 hT ?_)) fun r₂ s₂ hr₂ => ?_
      · obtain ⟨ol, hol, hcl, nl, hdl⟩ := hl
        obtain ⟨ocls, odict, odata, oslots⟩ := ol
        simp only at hcl hdl
        subst hcl; subst hdl
        have hol' : (s.heap.push { cls := .type "set", dict := none, data := .set #[] 0 (.fresh 0 0 (!w.params.followText "set-order")) }).get? l = some { cls := .type "tuple", dict := odict, data := .seq items nl, slots := oslots } := Heap.get?_push_of_some _ hol
        have hsls := F.sub_tuple_set
        have hslf := F.sub_tuple_frozenset
        have hne : (Value.type "tuple" == Value.type "dict") = false := by decide
        have hl1 : (s.heap.push { cls := .type "set", dict := none, data := .set #[] 0 (.fresh 0 0 (!w.params.followText "set-order")) }).IsTuple l items := ⟨_, hol', rfl, nl, rfl⟩
        unfold Builtin.«set.__init__» noKeywords Builtin.Frozenset.updateFrom
        generalize hPI : pyIter = PI
        wp_walk
        subst hPI

        refine wpAny_pyIter_tuple hl1 ?_
        refine wpAny_bind (wpAny_runValue ?_)
        have hlS : l < s.heap.objs.size := Heap.lt_size hol
        have hh3 : A.in1.in1.in1.handled = none := by simp [hh]
        have hneI : l ≠ (s.heap.push { cls := .type "set", dict := none, data := .set #[] 0 (.fresh 0 0 (!w.params.followText "set-order")) }).objs.size := by
          rw [Heap.size_push]; exact Nat.ne_of_lt (Nat.lt_succ_of_lt hlS)
        have hSf : s.heap.objs.size ∉ [(s.heap.push { cls := .type "set", dict := none, data := .set #[] 0 (.fresh 0 0 (!w.params.followText "set-order")) }).objs.size, l] := by
          rw [Heap.size_push]; simp only [List.mem_cons, List.mem_singleton, List.not_mem_nil, or_false, not_or]
          exact ⟨Nat.ne_of_lt (Nat.lt_succ_self _), Nat.ne_of_gt hlS⟩
        have hval : ∀ (i : Nat) (v : Value), items[i]? = some v → ∃ k, ks[i]? = some k ∧ keyIs k v = true ∧ v.scannable = true := fun i v hv => by
          rw [← Array.getElem?_toList] at hv
          obtain ⟨k, hk, q⟩ := items_get hit hv
          exact ⟨k, hk, q, hsc v (List.mem_of_getElem? hv)⟩
        refine set_update_keys ((Walks.tuple hh3 _ l hneI items).toS) s.heap.objs.size
          hSf ks hisz hroom hval (items.size - 0) 0 _ (by omega) (Nat.zero_le _)
          ⟨⟨_, Heap.get?_push_size _ rfl, rfl, rfl⟩, (hl1.push _)⟩ ?hS0 ?hR
        case hS0 =>
          exact (ky_fresh (P := P) (w := w) (h := s.heap)).at_ fun o e => Heap.get?_push_of_some _ e
        case hR =>
          intro s' hm hS'
          obtain ⟨h', g2, d', tk', os'⟩ := s'
          have eg : g2 = s.gens := hm.gens
          have ed : d' = s.drawn := hm.drawn
          have eo : os' = s.os := hm.os
          subst eg; subst ed; subst eo
          show wpAny _ _ _ _ _ _
          refine wpAny_pure ?_
          show wpAny _ _ (ret Value.none) _ _ _
          refine wpAny_pure ⟨rfl, h', tk', rfl, hS', fun b o e => ?_⟩
          have hb := Heap.lt_size e
          have hb1 : b ≠ s.heap.objs.size := Nat.ne_of_lt hb
          have hb2 : b ≠ (s.heap.push { cls := .type "set", dict := none, data := .set #[] 0 (.fresh 0 0 (!w.params.followText "set-order")) }).objs.size := by
            rw [Heap.size_push]; exact Nat.ne_of_lt (Nat.lt_succ_of_lt hb)
          exact hm.heap b o (by simp only [List.mem_cons, List.mem_singleton, List.not_mem_nil, or_false, not_or]; exact ⟨hb1, hb2⟩) (Heap.get?_push_of_some _ (Heap.get?_push_of_some _ e))
      · cases r₂ with
        | error e => exact hr₂
        | ok fl₂ =>
          cases fl₂ with
          | ret r =>
            obtain ⟨rfl, h', tk, rfl, hS', hk'⟩ := hr₂
            repeat (any_goals (first | assumption | wp_step))
            exact h _ _ hS' hk'
          | _ => exact hr₂.elim
    | _ => exact hr.elim

end
theorem keys_scan : ∀ {ks : List Key} {vs : List Value}, Vals (ks.map kV) vs → ∀ v ∈ vs, v.scannable = true
  | [], _, h, v, hv => by cases h; simp at hv
  | k :: ks, _, h, v, hv => by
    cases h with
    | cons r t =>
      rcases List.mem_cons.mp hv with rfl | hv
      · exact key_scan r
      · exact keys_scan t v hv
/-- set(xs): a new set -/
def rSetN (P : Program) (w : World) (K : PySem.W.Frag) : List V → Hp → VK → Prop := fun vs H Q => ∃ (a : Addr) (ks : List Key), vs = [V.ref a] ∧ (SqL K H a (ks.map kV) ∨ SqT K H a (ks.map kV)) ∧ ks.length + 1 < scanBound ∧
  ∀ p, H p = none → Q (.ref p) (upd H p (KyO P w p (dedupK ks)))
theorem call_setN {X : Cx} (hc : X.calm = true) : CallR X (.type "set") (rSetN X.prog X.w X.K) := by
  intro pins s σ H vs us Q I r h
  obtain ⟨a, ks, rfl, hs, hroom, q⟩ := h
  rw [Vals.ref1 r]
  have fin : ∀ (h' : Heap) (tk : Nat), Ky X.prog X.w h' s.heap.objs.size (dedupK ks) → (∀ b o, s.heap.get? b = some o → h'.get? b = some o) → EP X pins σ Q (.ref s.heap.objs.size) { s with heap := h', toks := tk } := fun h' tk K keep => by
    have hfree : H s.heap.objs.size = none := I.hok.fresh (Nat.le_refl _)
    exact ⟨.ref s.heap.objs.size, _, I.laid (t' := tk) keep (Nat.le_refl _) (ky_new K), rfl, q _ hfree⟩
  rcases hs with hs | hs
  · obtain ⟨its, rv, pl, hz⟩ := I.list hs
    exact call_set_list ks (I.ok.hd hc) pl.isList (by simpa using items_are rv) (by simpa using keys_scan rv) hroom fin
  · obtain ⟨its, rv, pl, hz⟩ := I.tuple hs
    exact call_set_tuple ks (I.ok.hd hc) pl (by simpa using items_are rv) (by simpa using keys_scan rv) hroom fin
def seqW (w : W) (S : Store) : Option (List W) := match w with
  | .tup xs => some xs
  | w => lsW w S
noncomputable def setM (a : EM) : En → Store → R (List Key) := fun e S => (a e S).bind fun w S1 => match (seqW w S1).bind keysW with
  | some ks => if ks.length + 1 < scanBound then .ok (dedupK ks) S1 else .bad
  | none => .bad
theorem keysW_ok {K : PySem.W.Frag} {mg : Str → Option Value} {H : Hp} {φ : Fi} : ∀ {ws : List W} {vs : List V} {ks : List Key}, keysW ws = some ks → VRs K mg H φ ws vs → vs = ks.map kV
  | [], vs, ks, h, r => by cases h; simpa [VRs] using r
  | w :: ws, vs, ks, h, r => by
    simp only [VRs] at r
    obtain ⟨v, rr, rfl, r1, r2⟩ := r
    simp only [keysW] at h
    split at h
    · rename_i key ks' hkey hks
      cases h
      rw [keysW_ok hks r2, List.map_cons]
      congr 1
      cases w with
      | int i => cases hkey; exact r1
      | str x => cases hkey; exact r1
      | _ => cases hkey
    · cases h
section
variable {X : Cx} {Wx : WX} {e : Expr} {A : EM} {pos p : Pos}
theorem m_setN (hc : X.calm = true) (h : ME X Wx e A) (hg : Gl X "set") (hm : X.mg "set" = none) (he : starEach [e] X.env = (false, eval e X.env) :: starEach [] X.env := by rfl) (hpl : (backTo pos (starEach [] X.env)).any (·.1) = false := by rfl) :
    MSk X Wx (.Call (.Name "set" p) [e] [] pos) (setM A) :=
  leE (pe_callTy (call_setN hc) hg hm boot_set (pa_cons h pa_nil he) (by decide) (by decide) he hpl) fun σ H Q ⟨en, S, φ, er, sr, q⟩ => by
    refine ⟨en, S, φ, er, sr, ?_⟩
    unfold setM at q
    cases hk : A en S with
    | bad => rw [hk] at q; exact q.elim
    | exc x S1 => rw [hk] at q; exact q
    | ok w S1 =>
      rw [hk, R.bind_ok] at q
      intro v H1 φ1 x1 s1 r1
      cases hw : seqW w S1 with
      | none => rw [hw] at q; exact q.elim
      | some ws =>
      rw [hw] at q
      simp only [Option.bind_some] at q
      cases hs : keysW ws with
      | none => rw [hs] at q; exact q.elim
      | some ks =>
        rw [hs] at q
        dsimp only at q
        by_cases hb : ks.length + 1 < scanBound
        case neg => rw [if_neg hb] at q; exact q.elim
        rw [if_pos hb] at q
        have hsq : ∃ a, v = .ref a ∧ (SqL X.K H1 a (ks.map kV) ∨ SqT X.K H1 a (ks.map kV)) := by
          unfold seqW at hw
          split at hw
          · cases hw
            simp only [VR] at r1
            obtain ⟨a, us, rfl, hq, rr⟩ := r1
            cases keysW_ok hs rr
            exact ⟨a, rfl, .inr hq.sq⟩
          · obtain ⟨a, us, rfl, hq, rr⟩ := lsW_ok s1 r1 hw
            cases keysW_ok hs rr
            exact ⟨a, rfl, .inl (.inl (.inl hq))⟩
        obtain ⟨a, rfl, hsq⟩ := hsq
        refine ⟨a, ks, rfl, hsq, hb, fun D hD => ?_⟩
        obtain ⟨_, s2⟩ := s1.hideNew (o := KyO X.prog X.w D (dedupK ks)) hD
        have x2 : Ext H1 (upd H1 D (KyO X.prog X.w D (dedupK ks))) φ1 φ1 := (s1.extra hD).1
        exact q D _ φ1 (x1.trans x2) s2 (s1.notin hD) (none_back x1 s1 hD) upd_same
end
end Sh

set_option Elab.async false
set_option linter.all false
/-! ShAB: is, is not of flags. -/
namespace Sh
open PySem PySem.Spec PyProof.Rows L2
def isBW : P2 := fun x y S => match x, y with
  | .bl a, .bl b => some (.bl (decide (a = b)), S)
  | _, _ => none
def notBW : P2 := fun x y S => match x, y with
  | .bl a, .bl b => some (.bl (!decide (a = b)), S)
  | _, _ => none
section
variable {K : PySem.W.Frag} {mg : Str → Option Value} {H : Hp} {φ : Fi} {S : Store}
theorem snd_isB : Snd2 K mg isBW rIsB := fun w w' S u S' H φ v v' Q s r r' h q => by
  unfold isBW at h
  split at h
  · rename_i a b
    cases h
    exact ⟨a, b, r, r', same_end s (by simp [VR]) q⟩
  · cases h
theorem snd_notB : Snd2 K mg notBW rNotB := fun w w' S u S' H φ v v' Q s r r' h q => by
  unfold notBW at h
  split at h
  · rename_i a b
    cases h
    exact ⟨a, b, r, r', same_end s (by simp [VR]) q⟩
  · cases h
end
@[simp] theorem isB_ap (a b : Bool) (S : Store) : isBW (.bl a) (.bl b) S = some (.bl (decide (a = b)), S) := rfl
@[simp] theorem notB_ap (a b : Bool) (S : Store) : notBW (.bl a) (.bl b) S = some (.bl (!decide (a = b)), S) := rfl
end Sh

set_option Elab.async false
set_option linter.all false
set_option maxRecDepth 100000
set_option maxHeartbeats 2000000
/-! ShU: == and != of plain data (tuples, lists within one another). -/
namespace Sh
open PySem PySem.Spec PyProof.Rows L2
def eqDW : P2 := fun x y S => match pyW x, pyW y with
  | some d, some e => if (SeqAt.shaped d && SeqAt.shaped e) = true then some (.bl (PyData.eqv d e), S) else none
  | _, _ => none
def neDW : P2 := fun x y S => match pyW x, pyW y with
  | some d, some e => if (SeqAt.shaped d && SeqAt.shaped e) = true then some (.bl (!PyData.eqv d e), S) else none
  | _, _ => none
section
variable {K : PySem.W.Frag} {mg : Str → Option Value} {H : Hp} {φ : Fi}
mutual
theorem dp_of : ∀ {d : PyData} {v : V}, RdV K H v d → d.canLay0 = true → Dp K H v d
  | .none, v, r, h => by cases r; exact .non
  | .bool b, v, r, h => by cases r; exact .bl b
  | .int i, v, r, h => by cases r; exact .int i
  | .str x, v, r, h => by cases r; exact .str x
  | .tuple ds, v, r, h => by
    cases r with
    | tup t rs => exact .tup t (dps_of rs h)
  | .list ds, v, r, h => by
    cases r with
    | lst t rs => exact .lst t (dps_of rs h)
  | .dict ds, v, r, h => by cases h
theorem dps_of : ∀ {ds : List PyData} {vs : List V}, RdVs K H vs ds → PyData.canLayAll0 ds = true → DpAll K H vs ds
  | [], vs, r, h => by cases r; exact .nil
  | d :: ds, vs, r, h => by
    cases r with
    | cons r rs =>
      obtain ⟨h1, h2⟩ := Bool.and_eq_true_iff.mp (show (d.canLay0 && PyData.canLayAll0 ds) = true from h)
      exact .cons (dp_of r h1) (dps_of rs h2)
end
theorem snd_eqD : Snd2 K mg eqDW (rEqD K) := fun w w' S u S' H φ v v' Q s r r' h q => by
  unfold eqDW at h
  split at h
  · rename_i d e e1 e2
    split at h
    · rename_i hz
      cases h
      obtain ⟨h1, h2⟩ := Bool.and_eq_true_iff.mp hz
      exact ⟨d, e, dp_of (rdv_of r e1) (SeqAt.canLay_of_shaped h1), dp_of (rdv_of r' e2) (SeqAt.canLay_of_shaped h2), h1, h2, q _ H φ .refl s rfl⟩
    · cases h
  · cases h
theorem snd_neD : Snd2 K mg neDW (rNeD K) := fun w w' S u S' H φ v v' Q s r r' h q => by
  unfold neDW at h
  split at h
  · rename_i d e e1 e2
    split at h
    · rename_i hz
      cases h
      obtain ⟨h1, h2⟩ := Bool.and_eq_true_iff.mp hz
      exact ⟨d, e, dp_of (rdv_of r e1) (SeqAt.canLay_of_shaped h1), dp_of (rdv_of r' e2) (SeqAt.canLay_of_shaped h2), h1, h2, q _ H φ .refl s rfl⟩
    · cases h
  · cases h
end
end Sh

set_option Elab.async false
set_option linter.all false
set_option maxRecDepth 100000
set_option maxHeartbeats 2000000
/-! the model of the program's defs, printed by mk.py -/
namespace Sh
open PySem L2
inductive Fn where
  | f_is_row | f_is_name | f_frozen | f_is_whole | f_is_atom | f_is_item | f_items_fault | f_test_fault | f_behind | f_each_fault | f_last_fault | f_part_fault | f_surveyed | f_depth_of | f_within_bounds | f_open_fault | f_is_open | f_opened | f_row_names | f_variables | f_most_names | f_ways | f_are_atoms | f_is_right_row | f_rows_for | f_atom_of | f_passes | f_result_of | f_lead | f_led | f_row_of | f__law_take | f__law_wide | f__law_even | f__law_deep | f__law_named | f__law_rowed | f__law_kept | f__law_refused | f__law_says | f__law_told | f_law
def kv_LENGTHS : List (Str × W) := [(("none" : Str), .int 1), (("give" : Str), .int 2), (("each" : Str), .int 4), (("choice" : Str), .int 3), (("when" : Str), .int 3), (("last" : Str), .int 4)]
def kv_OPPOSITES : List (Str × W) := [(("alike" : Str), .str ("unlike" : Str)), (("unlike" : Str), .str ("alike" : Str))]
def gdT : GD := fun x => if x = ("LENGTHS" : Str) then some kv_LENGTHS else if x = ("OPPOSITES" : Str) then some kv_OPPOSITES else none
def cfT : CF := fun c => []
def xsT : List Str := [("NoEnvironment" : Str), ("NoOpen" : Str)]
def csT : List Str := [("NoEnvironment" : Str), ("NoOpen" : Str)]
def subT : Str → Str → Bool := fun x c => false || (decide (x = ("NoEnvironment" : Str)) && decide (c = ("NoEnvironment" : Str))) || (decide (x = ("NoOpen" : Str)) && decide (c = ("NoOpen" : Str)))
@[simp] theorem in_NoEnvironment : ("NoEnvironment" : Str) ∈ xsT := by decide +kernel
@[simp] theorem sub_NoEnvironment_NoEnvironment : subT ("NoEnvironment" : Str) ("NoEnvironment" : Str) = true := by decide +kernel
@[simp] theorem sub_NoEnvironment_NoOpen : subT ("NoEnvironment" : Str) ("NoOpen" : Str) = false := by decide +kernel
@[simp] theorem in_NoOpen : ("NoOpen" : Str) ∈ xsT := by decide +kernel
@[simp] theorem sub_NoOpen_NoEnvironment : subT ("NoOpen" : Str) ("NoEnvironment" : Str) = false := by decide +kernel
@[simp] theorem sub_NoOpen_NoOpen : subT ("NoOpen" : Str) ("NoOpen" : Str) = true := by decide +kernel
def fcs_spot : List Str := [("NoOpen" : Str)]
@[simp] theorem fcs_spot_NoOpen : ("NoOpen" : Str) ∈ fcs_spot := by decide +kernel
@[simp] theorem lit_0 : ("" : Str) = ⟨#[]⟩ := by decide +kernel
@[simp] theorem lit_1 : ("1" : Str) = ⟨#[49]⟩ := by decide +kernel
@[simp] theorem lit_2 : ("again" : Str) = ⟨#[97, 103, 97, 105, 110]⟩ := by decide +kernel
@[simp] theorem lit_3 : ("alike" : Str) = ⟨#[97, 108, 105, 107, 101]⟩ := by decide +kernel
@[simp] theorem lit_4 : ("anew" : Str) = ⟨#[97, 110, 101, 119]⟩ := by decide +kernel
@[simp] theorem lit_5 : ("ask" : Str) = ⟨#[97, 115, 107]⟩ := by decide +kernel
@[simp] theorem lit_6 : ("at" : Str) = ⟨#[97, 116]⟩ := by decide +kernel
@[simp] theorem lit_7 : ("atom" : Str) = ⟨#[97, 116, 111, 109]⟩ := by decide +kernel
@[simp] theorem lit_8 : ("back" : Str) = ⟨#[98, 97, 99, 107]⟩ := by decide +kernel
@[simp] theorem lit_9 : ("call" : Str) = ⟨#[99, 97, 108, 108]⟩ := by decide +kernel
@[simp] theorem lit_10 : ("choice" : Str) = ⟨#[99, 104, 111, 105, 99, 101]⟩ := by decide +kernel
@[simp] theorem lit_11 : ("do" : Str) = ⟨#[100, 111]⟩ := by decide +kernel
@[simp] theorem lit_12 : ("e" : Str) = ⟨#[101]⟩ := by decide +kernel
@[simp] theorem lit_13 : ("each" : Str) = ⟨#[101, 97, 99, 104]⟩ := by decide +kernel
@[simp] theorem lit_14 : ("every" : Str) = ⟨#[101, 118, 101, 114, 121]⟩ := by decide +kernel
@[simp] theorem lit_15 : ("f" : Str) = ⟨#[102]⟩ := by decide +kernel
@[simp] theorem lit_16 : ("fall" : Str) = ⟨#[102, 97, 108, 108]⟩ := by decide +kernel
@[simp] theorem lit_17 : ("find" : Str) = ⟨#[102, 105, 110, 100]⟩ := by decide +kernel
@[simp] theorem lit_18 : ("first" : Str) = ⟨#[102, 105, 114, 115, 116]⟩ := by decide +kernel
@[simp] theorem lit_19 : ("g" : Str) = ⟨#[103]⟩ := by decide +kernel
@[simp] theorem lit_20 : ("give" : Str) = ⟨#[103, 105, 118, 101]⟩ := by decide +kernel
@[simp] theorem lit_21 : ("h" : Str) = ⟨#[104]⟩ := by decide +kernel
@[simp] theorem lit_22 : ("here" : Str) = ⟨#[104, 101, 114, 101]⟩ := by decide +kernel
@[simp] theorem lit_23 : ("if" : Str) = ⟨#[105, 102]⟩ := by decide +kernel
@[simp] theorem lit_24 : ("is" : Str) = ⟨#[105, 115]⟩ := by decide +kernel
@[simp] theorem lit_25 : ("isnt" : Str) = ⟨#[105, 115, 110, 116]⟩ := by decide +kernel
@[simp] theorem lit_26 : ("items" : Str) = ⟨#[105, 116, 101, 109, 115]⟩ := by decide +kernel
@[simp] theorem lit_27 : ("keep" : Str) = ⟨#[107, 101, 101, 112]⟩ := by decide +kernel
@[simp] theorem lit_28 : ("last" : Str) = ⟨#[108, 97, 115, 116]⟩ := by decide +kernel
@[simp] theorem lit_29 : ("list" : Str) = ⟨#[108, 105, 115, 116]⟩ := by decide +kernel
@[simp] theorem lit_30 : ("many" : Str) = ⟨#[109, 97, 110, 121]⟩ := by decide +kernel
@[simp] theorem lit_31 : ("match" : Str) = ⟨#[109, 97, 116, 99, 104]⟩ := by decide +kernel
@[simp] theorem lit_32 : ("mod" : Str) = ⟨#[109, 111, 100]⟩ := by decide +kernel
@[simp] theorem lit_33 : ("most" : Str) = ⟨#[109, 111, 115, 116]⟩ := by decide +kernel
@[simp] theorem lit_34 : ("move" : Str) = ⟨#[109, 111, 118, 101]⟩ := by decide +kernel
@[simp] theorem lit_35 : ("name" : Str) = ⟨#[110, 97, 109, 101]⟩ := by decide +kernel
@[simp] theorem lit_36 : ("no" : Str) = ⟨#[110, 111]⟩ := by decide +kernel
@[simp] theorem lit_37 : ("none" : Str) = ⟨#[110, 111, 110, 101]⟩ := by decide +kernel
@[simp] theorem lit_38 : ("not an environment" : Str) = ⟨#[110, 111, 116, 32, 97, 110, 32, 101, 110, 118, 105, 114, 111, 110, 109, 101, 110, 116]⟩ := by decide +kernel
@[simp] theorem lit_39 : ("not an open expression" : Str) = ⟨#[110, 111, 116, 32, 97, 110, 32, 111, 112, 101, 110, 32, 101, 120, 112, 114, 101, 115, 115, 105, 111, 110]⟩ := by decide +kernel
@[simp] theorem lit_40 : ("nothing" : Str) = ⟨#[110, 111, 116, 104, 105, 110, 103]⟩ := by decide +kernel
@[simp] theorem lit_41 : ("out" : Str) = ⟨#[111, 117, 116]⟩ := by decide +kernel
@[simp] theorem lit_42 : ("p" : Str) = ⟨#[112]⟩ := by decide +kernel
@[simp] theorem lit_43 : ("place" : Str) = ⟨#[112, 108, 97, 99, 101]⟩ := by decide +kernel
@[simp] theorem lit_44 : ("put" : Str) = ⟨#[112, 117, 116]⟩ := by decide +kernel
@[simp] theorem lit_45 : ("r" : Str) = ⟨#[114]⟩ := by decide +kernel
@[simp] theorem lit_46 : ("reach" : Str) = ⟨#[114, 101, 97, 99, 104]⟩ := by decide +kernel
@[simp] theorem lit_47 : ("s" : Str) = ⟨#[115]⟩ := by decide +kernel
@[simp] theorem lit_48 : ("say" : Str) = ⟨#[115, 97, 121]⟩ := by decide +kernel
@[simp] theorem lit_49 : ("scan" : Str) = ⟨#[115, 99, 97, 110]⟩ := by decide +kernel
@[simp] theorem lit_50 : ("size" : Str) = ⟨#[115, 105, 122, 101]⟩ := by decide +kernel
@[simp] theorem lit_51 : ("t" : Str) = ⟨#[116]⟩ := by decide +kernel
@[simp] theorem lit_52 : ("tab" : Str) = ⟨#[116, 97, 98]⟩ := by decide +kernel
@[simp] theorem lit_53 : ("take" : Str) = ⟨#[116, 97, 107, 101]⟩ := by decide +kernel
@[simp] theorem lit_54 : ("to" : Str) = ⟨#[116, 111]⟩ := by decide +kernel
@[simp] theorem lit_55 : ("triedagain.checks" : Str) = ⟨#[116, 114, 105, 101, 100, 97, 103, 97, 105, 110, 46, 99, 104, 101, 99, 107, 115]⟩ := by decide +kernel
@[simp] theorem lit_56 : ("triedagain.errors" : Str) = ⟨#[116, 114, 105, 101, 100, 97, 103, 97, 105, 110, 46, 101, 114, 114, 111, 114, 115]⟩ := by decide +kernel
@[simp] theorem lit_57 : ("triedagain.openlead" : Str) = ⟨#[116, 114, 105, 101, 100, 97, 103, 97, 105, 110, 46, 111, 112, 101, 110, 108, 101, 97, 100]⟩ := by decide +kernel
@[simp] theorem lit_58 : ("triedagain.opens" : Str) = ⟨#[116, 114, 105, 101, 100, 97, 103, 97, 105, 110, 46, 111, 112, 101, 110, 115]⟩ := by decide +kernel
@[simp] theorem lit_59 : ("u" : Str) = ⟨#[117]⟩ := by decide +kernel
@[simp] theorem lit_60 : ("unlike" : Str) = ⟨#[117, 110, 108, 105, 107, 101]⟩ := by decide +kernel
@[simp] theorem lit_61 : ("v" : Str) = ⟨#[118]⟩ := by decide +kernel
@[simp] theorem lit_62 : ("w" : Str) = ⟨#[119]⟩ := by decide +kernel
@[simp] theorem lit_63 : ("when" : Str) = ⟨#[119, 104, 101, 110]⟩ := by decide +kernel
@[simp] theorem lit_64 : ("while" : Str) = ⟨#[119, 104, 105, 108, 101]⟩ := by decide +kernel
@[simp] theorem lit_65 : ("x" : Str) = ⟨#[120]⟩ := by decide +kernel
abbrev c_MOST_ATOMS : W := .int 16
abbrev c_MOST_DEEP : W := .int 12
abbrev c_MOST_ITEMS : W := .int 3
abbrev c_MOST_NAMES : W := .int 3
abbrev c_MOST_PARTS : W := .int 40
abbrev c_WORDS : W := .tup (.str ("nothing" : Str) :: .str ("first" : Str) :: .str ("no" : Str) :: .str ("if" : Str) :: .str ("most" : Str) :: .str ("again" : Str) :: .str ("to" : Str) :: .str ("items" : Str) :: .str ("every" : Str) :: .str ("while" : Str) :: .str ("do" : Str) :: .str ("call" : Str) :: .str ("back" : Str) :: .str ("out" : Str) :: .str ("fall" : Str) :: .str ("keep" : Str) :: .str ("ask" : Str) :: .str ("anew" : Str) :: .str ("scan" : Str) :: .str ("move" : Str) :: .str ("tab" : Str) :: .str ("find" : Str) :: .str ("reach" : Str) :: .str ("many" : Str) :: .str ("match" : Str) :: .str ("here" : Str) :: .str ("put" : Str) :: .str ("take" : Str) :: .str ("size" : Str) :: .str ("at" : Str) :: .str ("place" : Str) :: .str ("say" : Str) :: .str ("is" : Str) :: .str ("isnt" : Str) :: .str ("list" : Str) :: .str ("mod" : Str) :: [])
noncomputable def b_is_row (C : Fn → Cal) : SM := (sRet (eN isiN [(eVar 0), (eN tupN [(eC (.ty "list")), (eC (.ty "tuple"))])]))
noncomputable def b_is_name (C : Fn → Cal) : SM := (sSeq (sIf (tOr (tNot (tE (eN isiN [(eVar 0), (eC (.ty "str"))]))) (tNot (tB (eChain leW leW (eC (.int 1)) (eN lenSN [(eVar 0)]) (eC (.int 8)))))) (sRet (eC (.bl false))) sNil)
  (sSeq (sFor (iE (eVar 0)) (gVar 1) (sIf (tNot (tB (eChain leW leW (eC (.int 97)) (eN ordN [(eVar 1)]) (eC (.int 122))))) (sRet (eC (.bl false))) sNil))
  (sRet (e2 (notInW gdT) (eVar 0) (eC (c_WORDS))))))
noncomputable def b_frozen (C : Fn → Cal) : SM := (sSeq (sIf (tE (eCall (C .f_is_row) [(eVar 0)])) (sRet (eN tupleN [(eLc false (iE (eVar 0)) [1] (gVar 1) tYesM (eCall (C .f_frozen) [(eVar 1)]))])) sNil)
  (sRet (eVar 0)))
noncomputable def b_is_whole (C : Fn → Cal) : SM := (sRet (eAnd (eN isiN [(eVar 0), (eC (.ty "int"))]) (eNot (eN isiN [(eVar 0), (eC (.ty "bool"))]))))
noncomputable def b_is_atom (C : Fn → Cal) : SM := (sSeq (sIf (tE (eCall (C .f_is_whole) [(eVar 0)])) (sRet (eC (.bl true))) sNil)
  (sSeq (sIf (tOr (tNot (tE (eN isiN [(eVar 0), (eC (.ty "str"))]))) (tB (e2 gtW (eN lenSN [(eVar 0)]) (eC (.int 20))))) (sRet (eC (.bl false))) sNil)
  (sSeq (sFor (iE (eVar 0)) (gVar 1) (sIf (tOr (tNot (tB (eChain leW leW (eC (.int 32)) (eN ordN [(eVar 1)]) (eC (.int 126))))) (tB (e2 eqW (eN ordN [(eVar 1)]) (eC (.int 37))))) (sRet (eC (.bl false))) sNil))
  (sRet (eC (.bl true))))))
noncomputable def b_is_item (C : Fn → Cal) : SM := (sSeq (sIf (tOr (tNot (tE (eCall (C .f_is_row) [(eVar 0)]))) (tB (e2 neW (eN lenSN [(eVar 0)]) (eC (.int 2))))) (sRet (eC (.bl false))) sNil)
  (sSeq (sIf (tB (e2 eqW (e2 (getW gdT) (eVar 0) (eC (.int 0))) (eC (.str ("name" : Str))))) (sRet (eAnd (eCall (C .f_is_name) [(e2 (getW gdT) (eVar 0) (eC (.int 1)))]) (e2 (inW gdT) (e2 (getW gdT) (eVar 0) (eC (.int 1))) (eVar 1)))) sNil)
  (sRet (eAnd (e2 eqW (e2 (getW gdT) (eVar 0) (eC (.int 0))) (eC (.str ("atom" : Str)))) (eCall (C .f_is_atom) [(e2 (getW gdT) (eVar 0) (eC (.int 1)))])))))
noncomputable def b_items_fault (C : Fn → Cal) : SM := (sSeq (sIf (tOr (tNot (tE (eCall (C .f_is_row) [(eVar 0)]))) (tB (e2 gtW (eN lenSN [(eVar 0)]) (eC (c_MOST_ITEMS))))) (sRet (eN tupN [])) sNil)
  (sSeq (sFor (iRange1 (eN lenSN [(eVar 0)])) (gVar 2) (sIf (tNot (tE (eCall (C .f_is_item) [(e2 (getW gdT) (eVar 0) (eVar 2)), (eVar 1)]))) (sRet (eN tupN [(eVar 2)])) sNil))
  (sRet (eC (.non)))))
noncomputable def b_test_fault (C : Fn → Cal) : SM := (sSeq (sIf (tOr (tNot (tE (eCall (C .f_is_row) [(eVar 0)]))) (tOr (tB (e2 neW (eN lenSN [(eVar 0)]) (eC (.int 3)))) (tOr (tNot (tE (eN isiN [(e2 (getW gdT) (eVar 0) (eC (.int 0))), (eC (.ty "str"))]))) (tB (e2 (notInW gdT) (e2 (getW gdT) (eVar 0) (eC (.int 0))) (eC (.glo ("OPPOSITES" : Str)))))))) (sRet (eN tupN [])) sNil)
  (sSeq (sFor (iE (eN tupN [(eC (.int 1)), (eC (.int 2))])) (gVar 2) (sIf (tNot (tE (eCall (C .f_is_item) [(e2 (getW gdT) (eVar 0) (eVar 2)), (eVar 1)]))) (sRet (eN tupN [(eVar 2)])) sNil))
  (sRet (eC (.non)))))
noncomputable def b_behind (C : Fn → Cal) : SM := (sSeq (sIf (tB (e2 isNW (eVar 1) (eC (.non)))) (sRet (eC (.non))) sNil)
  (sRet (e2 (addW false) (eN tupN [(eVar 0)]) (eVar 1))))
noncomputable def b_each_fault (C : Fn → Cal) : SM := (sSeq (sIf (tOr (tNot (tE (eCall (C .f_is_name) [(e2 (getW gdT) (eVar 0) (eC (.int 1)))]))) (tB (e2 (inW gdT) (e2 (getW gdT) (eVar 0) (eC (.int 1))) (eVar 1)))) (sRet (eN tupN [(eC (.int 1))])) sNil)
  (sSeq (sIf (tNot (tE (eCall (C .f_is_name) [(e2 (getW gdT) (eVar 0) (eC (.int 2)))]))) (sRet (eN tupN [(eC (.int 2))])) sNil)
  (sRet (eCall (C .f_behind) [(eC (.int 3)), (eCall (C .f_part_fault) [(e2 (getW gdT) (eVar 0) (eC (.int 3))), (e2 (addW false) (eVar 1) (eN tupN [(e2 (getW gdT) (eVar 0) (eC (.int 1)))]))])]))))
noncomputable def b_last_fault (C : Fn → Cal) : SM := (sSeq (sIf (tNot (tE (eCall (C .f_is_name) [(e2 (getW gdT) (eVar 0) (eC (.int 1)))]))) (sRet (eN tupN [(eC (.int 1))])) sNil)
  (sSeq (sIf (tNot (tE (eCall (C .f_is_item) [(e2 (getW gdT) (eVar 0) (eC (.int 2))), (eVar 1)]))) (sRet (eN tupN [(eC (.int 2))])) sNil)
  (sRet (eCall (C .f_behind) [(eC (.int 3)), (eCall (C .f_part_fault) [(e2 (getW gdT) (eVar 0) (eC (.int 3))), (eVar 1)])]))))
noncomputable def b_part_fault (C : Fn → Cal) : SM := (sSeq (sIf (tOr (tNot (tE (eCall (C .f_is_row) [(eVar 0)]))) (tOr (tB (e2 eqW (eN lenSN [(eVar 0)]) (eC (.int 0)))) (tOr (tNot (tE (eN isiN [(e2 (getW gdT) (eVar 0) (eC (.int 0))), (eC (.ty "str"))]))) (tB (e2 (notInW gdT) (e2 (getW gdT) (eVar 0) (eC (.int 0))) (eC (.glo ("LENGTHS" : Str)))))))) (sRet (eN tupN [])) sNil)
  (sSeq (sSet 2 (e2 (getW gdT) (eVar 0) (eC (.int 0))))
  (sSeq (sIf (tB (e2 neW (eN lenSN [(eVar 0)]) (e2 (getW gdT) (eC (.glo ("LENGTHS" : Str))) (eVar 2)))) (sRet (eN tupN [])) sNil)
  (sSeq (sIf (tB (e2 eqW (eVar 2) (eC (.str ("none" : Str))))) (sRet (eC (.non))) sNil)
  (sSeq (sIf (tB (e2 eqW (eVar 2) (eC (.str ("give" : Str))))) (sRet (eCall (C .f_behind) [(eC (.int 1)), (eCall (C .f_items_fault) [(e2 (getW gdT) (eVar 0) (eC (.int 1))), (eVar 1)])])) sNil)
  (sSeq (sIf (tB (e2 eqW (eVar 2) (eC (.str ("each" : Str))))) (sRet (eCall (C .f_each_fault) [(eVar 0), (eVar 1)])) sNil)
  (sSeq (sIf (tB (e2 eqW (eVar 2) (eC (.str ("last" : Str))))) (sRet (eCall (C .f_last_fault) [(eVar 0), (eVar 1)])) sNil)
  (sSeq (sIf (tB (e2 eqW (eVar 2) (eC (.str ("when" : Str))))) (sSet 3 (eCall (C .f_behind) [(eC (.int 1)), (eCall (C .f_test_fault) [(e2 (getW gdT) (eVar 0) (eC (.int 1))), (eVar 1)])])) (sSet 3 (eCall (C .f_behind) [(eC (.int 1)), (eCall (C .f_part_fault) [(e2 (getW gdT) (eVar 0) (eC (.int 1))), (eVar 1)])])))
  (sSeq (sIf (tB (e2 notNW (eVar 3) (eC (.non)))) (sRet (eVar 3)) sNil)
  (sRet (eCall (C .f_behind) [(eC (.int 2)), (eCall (C .f_part_fault) [(e2 (getW gdT) (eVar 0) (eC (.int 2))), (eVar 1)])])))))))))))
noncomputable def b_surveyed (C : Fn → Cal) : SM := (sSeq (sSet 1 (eN (lstN true) []))
  (sSeq (sSet 2 (eN (lstN true) [(eN tupN [(eN tupN []), (eVar 0), (eN tupN []), (eN tupN [])])]))
  (sSeq (sWhile (tE (eVar 2)) (sSeq (sAsg (gRow [3, 4, 5, 6]) (eMeth "list" popM (eVar 2) []))
  (sSeq (sExpr (eMeth "list" appendM (eVar 1) [(eN tupN [(eVar 3), (eVar 4), (eVar 5), (eVar 6)])]))
  (sSeq (sSet 7 (e2 (getW gdT) (eVar 4) (eC (.int 0))))
  (sIf (tB (e2 eqW (eVar 7) (eC (.str ("each" : Str))))) (sExpr (eMeth "list" appendM (eVar 2) [(eN tupN [(e2 (addW false) (eVar 3) (eN tupN [(eC (.int 3))])), (e2 (getW gdT) (eVar 4) (eC (.int 3))), (e2 (addW false) (eVar 5) (eN tupN [(eN tupN [(e2 (getW gdT) (eVar 4) (eC (.int 1))), (e2 (getW gdT) (eVar 4) (eC (.int 2)))])])), (eVar 6)])])) (sIf (tB (e2 eqW (eVar 7) (eC (.str ("last" : Str))))) (sExpr (eMeth "list" appendM (eVar 2) [(eN tupN [(e2 (addW false) (eVar 3) (eN tupN [(eC (.int 3))])), (e2 (getW gdT) (eVar 4) (eC (.int 3))), (eVar 5), (eVar 6)])])) (sIf (tB (e2 eqW (eVar 7) (eC (.str ("when" : Str))))) (sExpr (eMeth "list" appendM (eVar 2) [(eN tupN [(e2 (addW false) (eVar 3) (eN tupN [(eC (.int 2))])), (e2 (getW gdT) (eVar 4) (eC (.int 2))), (eVar 5), (e2 (addW false) (eVar 6) (eN tupN [(e2 (getW gdT) (eVar 4) (eC (.int 1)))]))])])) (sIf (tB (e2 eqW (eVar 7) (eC (.str ("choice" : Str))))) (sSeq (sExpr (eMeth "list" appendM (eVar 2) [(eN tupN [(e2 (addW false) (eVar 3) (eN tupN [(eC (.int 2))])), (e2 (getW gdT) (eVar 4) (eC (.int 2))), (eVar 5), (eVar 6)])]))
  (sExpr (eMeth "list" appendM (eVar 2) [(eN tupN [(e2 (addW false) (eVar 3) (eN tupN [(eC (.int 1))])), (e2 (getW gdT) (eVar 4) (eC (.int 1))), (eVar 5), (eVar 6)])]))) sNil))))))))
  (sRet (eVar 1)))))
noncomputable def b_depth_of (C : Fn → Cal) : SM := (sSeq (sSet 1 (e2 (getW gdT) (eVar 0) (eC (.int 0))))
  (sSeq (sIf (tOr (tB (e2 eqW (eVar 1) (eC (.str ("none" : Str))))) (tB (e2 eqW (eVar 1) (eC (.str ("give" : Str)))))) (sRet (eC (.int 1))) sNil)
  (sSeq (sIf (tB (e2 eqW (eVar 1) (eC (.str ("choice" : Str))))) (sRet (e2 (addW false) (eC (.int 1)) (eN maxN [(eCall (C .f_depth_of) [(e2 (getW gdT) (eVar 0) (eC (.int 1)))]), (eCall (C .f_depth_of) [(e2 (getW gdT) (eVar 0) (eC (.int 2)))])]))) sNil)
  (sRet (e2 (addW false) (eC (.int 1)) (eCall (C .f_depth_of) [(e2 (getW gdT) (eVar 0) (e2 subW (eN lenSN [(eVar 0)]) (eC (.int 1))))]))))))
noncomputable def b_within_bounds (C : Fn → Cal) : SM := (sSeq (sIf (tB (e2 gtW (eCall (C .f_depth_of) [(eVar 0)]) (eC (c_MOST_DEEP)))) (sRet (eC (.bl false))) sNil)
  (sSeq (sSet 1 (eCall (C .f_surveyed) [(eVar 0)]))
  (sSeq (sIf (tB (e2 gtW (eN lenSN [(eVar 1)]) (eC (c_MOST_PARTS)))) (sRet (eC (.bl false))) sNil)
  (sSeq (sIf (tB (e2 gtW (eN maxLN [(eLc false (iE (eVar 1)) [4, 5, 6, 7] (gRow [4, 5, 6, 7]) tYesM (eN lenSN [(eVar 6)]))]) (eC (c_MOST_NAMES)))) (sRet (eC (.bl false))) sNil)
  (sSeq (sSet 2 (eSz (skM (iE (eVar 1)) [4, 5, 6, 7] (gRow [4, 5, 6, 7]) (tB (e2 eqW (e2 (getW gdT) (eVar 5) (eC (.int 0))) (eC (.str ("each" : Str))))) (e2 (getW gdT) (eVar 5) (eC (.int 2))))))
  (sSeq (sSet 3 (eSz (skM (iE (eVar 1)) [4, 5, 6, 7] (gRow [4, 5, 6, 7]) (tB (e2 eqW (e2 (getW gdT) (eVar 5) (eC (.int 0))) (eC (.str ("last" : Str))))) (e2 (getW gdT) (eVar 5) (eC (.int 1))))))
  (sRet (eAnd (e2 leW (eN lenSN [(eVar 2)]) (eC (c_MOST_NAMES))) (e2 leW (eN lenSN [(eVar 3)]) (eC (c_MOST_NAMES)))))))))))
noncomputable def b_open_fault (C : Fn → Cal) : SM := (sSeq (sSet 1 (eCall (C .f_part_fault) [(eVar 0), (eN tupN [])]))
  (sSeq (sIf (tB (e2 notNW (eVar 1) (eC (.non)))) (sRet (eVar 1)) sNil)
  (sSeq (sIf (tNot (tE (eCall (C .f_within_bounds) [(eVar 0)]))) (sRet (eN tupN [])) sNil)
  (sRet (eC (.non))))))
noncomputable def b_is_open (C : Fn → Cal) : SM := (sRet (e2 isNW (eCall (C .f_open_fault) [(eVar 0)]) (eC (.non))))
noncomputable def b_opened (C : Fn → Cal) : SM := (sSeq (sSet 1 (eCall (C .f_open_fault) [(eVar 0)]))
  (sSeq (sIf (tB (e2 notNW (eVar 1) (eC (.non)))) (sRaiseN ("NoOpen" : Str) 1 [(("spot" : Str), 0)] [(eVar 1)]) sNil)
  (sRet (eCall (C .f_frozen) [(eVar 0)]))))
noncomputable def b_row_names (C : Fn → Cal) : SM := (sRet (eSortK false (skM (iE (eCall (C .f_surveyed) [(eCall (C .f_opened) [(eVar 0)])])) [1, 2, 3, 4] (gRow [1, 2, 3, 4]) (tB (e2 eqW (e2 (getW gdT) (eVar 2) (eC (.int 0))) (eC (.str ("each" : Str))))) (e2 (getW gdT) (eVar 2) (eC (.int 2))))))
noncomputable def b_variables (C : Fn → Cal) : SM := (sRet (eSortK false (skM (iE (eCall (C .f_surveyed) [(eCall (C .f_opened) [(eVar 0)])])) [1, 2, 3, 4] (gRow [1, 2, 3, 4]) (tB (e2 eqW (e2 (getW gdT) (eVar 2) (eC (.int 0))) (eC (.str ("last" : Str))))) (e2 (getW gdT) (eVar 2) (eC (.int 1))))))
noncomputable def b_most_names (C : Fn → Cal) : SM := (sRet (eN maxLN [(eLc false (iE (eCall (C .f_surveyed) [(eCall (C .f_opened) [(eVar 0)])])) [1, 2, 3, 4] (gRow [1, 2, 3, 4]) tYesM (eN lenSN [(eVar 3)]))]))
noncomputable def b_ways (C : Fn → Cal) : SM := (sRet (eN lenSN [(eLc false (iE (eCall (C .f_surveyed) [(eCall (C .f_opened) [(eVar 0)])])) [1, 2, 3, 4] (gRow [1, 2, 3, 4]) (tB (e2 eqW (e2 (getW gdT) (eVar 2) (eC (.int 0))) (eC (.str ("give" : Str))))) (eVar 2))]))
noncomputable def b_are_atoms (C : Fn → Cal) : SM := (sSeq (sIf (tNot (tE (eCall (C .f_is_row) [(eVar 0)]))) (sRet (eC (.bl false))) sNil)
  (sSeq (sFor (iE (eVar 0)) (gVar 1) (sIf (tNot (tE (eCall (C .f_is_atom) [(eVar 1)]))) (sRet (eC (.bl false))) sNil))
  (sRet (eC (.bl true)))))
noncomputable def b_is_right_row (C : Fn → Cal) : SM := (sRet (eAnd (eCall (C .f_are_atoms) [(eVar 0)]) (eAnd (e2 leW (eN lenSN [(eVar 0)]) (eC (c_MOST_ATOMS))) (e2 eqW (eN lenSN [(eSz (setM (eVar 0)))]) (eN lenSN [(eVar 0)])))))
noncomputable def b_rows_for (C : Fn → Cal) : SM := (sSeq (sIf (tNot (tE (eN isiN [(eVar 1), (eC (.ty "dict"))]))) (sRaiseN ("NoEnvironment" : Str) 1 [(("name" : Str), 0)] [(eC (.str ("" : Str)))]) sNil)
  (sSeq (sSet 2 (eDict0 true))
  (sSeq (sFor (iE (eVar 0)) (gVar 3) (sSeq (sIf (tOr (tB (e2 (notInW gdT) (eVar 3) (eVar 1))) (tNot (tE (eCall (C .f_is_right_row) [(e2 (getW gdT) (eVar 1) (eVar 3))])))) (sRaiseN ("NoEnvironment" : Str) 1 [(("name" : Str), 0)] [(eVar 3)]) sNil)
  (sSetIx setW (eVar 2) (eVar 3) (eN (listN false) [(e2 (getW gdT) (eVar 1) (eVar 3))]))))
  (sRet (eVar 2)))))
noncomputable def b_atom_of (C : Fn → Cal) : SM := (sSeq (sIf (tB (e2 eqW (e2 (getW gdT) (eVar 0) (eC (.int 0))) (eC (.str ("name" : Str))))) (sRet (e2 (getW gdT) (eVar 1) (e2 (getW gdT) (eVar 0) (eC (.int 1))))) sNil)
  (sRet (e2 (getW gdT) (eVar 0) (eC (.int 1)))))
noncomputable def b_passes (C : Fn → Cal) : SM := (sSeq (sSet 2 (e2 eqW (eCall (C .f_atom_of) [(e2 (getW gdT) (eVar 0) (eC (.int 1))), (eVar 1)]) (eCall (C .f_atom_of) [(e2 (getW gdT) (eVar 0) (eC (.int 2))), (eVar 1)])))
  (sSeq (sIf (tB (e2 eqW (e2 (getW gdT) (eVar 0) (eC (.int 0))) (eC (.str ("alike" : Str))))) (sRet (eVar 2)) sNil)
  (sRet (eNot (eVar 2)))))
noncomputable def b_result_of (C : Fn → Cal) : SM := (sRet (eN tupN [(eN tupleN [(eLc false (iE (eVar 0)) [2] (gVar 2) tYesM (eCall (C .f_atom_of) [(eVar 2), (eVar 1)]))]), (eN tupleN [(eSrtI false (eVar 1))])]))
noncomputable def b_lead (C : Fn → Cal) : SM := (sSeq (sSet 5 (e2 (getW gdT) (eVar 0) (eC (.int 0))))
  (sIf (tB (e2 eqW (eVar 5) (eC (.str ("give" : Str))))) (sExpr (eMeth "list" appendM (eVar 3) [(eCall (C .f_result_of) [(e2 (getW gdT) (eVar 0) (eC (.int 1))), (eVar 2)])])) (sIf (tB (e2 eqW (eVar 5) (eC (.str ("each" : Str))))) (sFor (iE (e2 (getW gdT) (eVar 1) (e2 (getW gdT) (eVar 0) (eC (.int 2))))) (gVar 6) (sSeq (sSet 7 (eN (dcopyN true) [(eVar 2)]))
  (sSeq (sSetIx setW (eVar 7) (e2 (getW gdT) (eVar 0) (eC (.int 1))) (eVar 6))
  (sExpr (eCall (C .f_lead) [(e2 (getW gdT) (eVar 0) (eC (.int 3))), (eVar 1), (eVar 7), (eVar 3), (eVar 4)]))))) (sIf (tB (e2 eqW (eVar 5) (eC (.str ("choice" : Str))))) (sSeq (sExpr (eCall (C .f_lead) [(e2 (getW gdT) (eVar 0) (eC (.int 1))), (eVar 1), (eVar 2), (eVar 3), (eVar 4)]))
  (sExpr (eCall (C .f_lead) [(e2 (getW gdT) (eVar 0) (eC (.int 2))), (eVar 1), (eVar 2), (eVar 3), (eVar 4)]))) (sIf (tB (e2 eqW (eVar 5) (eC (.str ("when" : Str))))) (sIf (tE (eCall (C .f_passes) [(e2 (getW gdT) (eVar 0) (eC (.int 1))), (eVar 2)])) (sExpr (eCall (C .f_lead) [(e2 (getW gdT) (eVar 0) (eC (.int 2))), (eVar 1), (eVar 2), (eVar 3), (eVar 4)])) sNil) (sIf (tB (e2 eqW (eVar 5) (eC (.str ("last" : Str))))) (sSeq (sSetIx setW (eVar 4) (e2 (getW gdT) (eVar 0) (eC (.int 1))) (eCall (C .f_atom_of) [(e2 (getW gdT) (eVar 0) (eC (.int 2))), (eVar 2)]))
  (sExpr (eCall (C .f_lead) [(e2 (getW gdT) (eVar 0) (eC (.int 3))), (eVar 1), (eVar 2), (eVar 3), (eVar 4)]))) sNil))))))
noncomputable def b_led (C : Fn → Cal) : SM := (sSeq (sSet 2 (eCall (C .f_opened) [(eVar 0)]))
  (sSeq (sSet 3 (eCall (C .f_rows_for) [(eCall (C .f_row_names) [(eVar 2)]), (eVar 1)]))
  (sSeq (sSet 4 (eN (lstN true) []))
  (sSeq (sSet 5 (eDict0 true))
  (sSeq (sExpr (eCall (C .f_lead) [(eVar 2), (eVar 3), (eDict0 false), (eVar 4), (eVar 5)]))
  (sRet (eN tupN [(eVar 4), (eVar 5)])))))))
noncomputable def b_row_of (C : Fn → Cal) : SM := (sRet (e2 (getW gdT) (eCall (C .f_led) [(eVar 0), (eVar 1)]) (eC (.int 0))))
noncomputable def b__law_take (C : Fn → Cal) : SM := (sSeq (sSetIx setW (eVar 1) (eC (.int 2)) (e2 (addW false) (e2 (getW gdT) (eVar 1) (eC (.int 2))) (eC (.int 1))))
  (sSeq (sIf (tAnd (tB (e2 eqW (e2 (getW gdT) (eVar 1) (eC (.int 1))) (eC (.int 0)))) (tB (e2 ltW (e2 (getW gdT) (eVar 1) (eC (.int 0))) (eN lenSN [(eVar 0)])))) (sSeq (sSet 3 (e2 (getW gdT) (eVar 0) (e2 (getW gdT) (eVar 1) (eC (.int 0)))))
  (sSeq (sSetIx setW (eVar 1) (eC (.int 0)) (e2 (addW false) (e2 (getW gdT) (eVar 1) (eC (.int 0))) (eC (.int 1))))
  (sSeq (sIf (tB (e2 ltW (eVar 3) (eC (.int 0)))) (sSet 3 (e2 subW (e2 subW (eC (.int 0)) (e2 (mulW false) (eC (.int 2)) (eVar 3))) (eC (.int 1)))) sNil)
  (sIf (tB (e2 geW (eVar 3) (e2 powW (eC (.int 10)) (eC (.int 18))))) (sSetIx setW (eVar 1) (eC (.int 1)) (eVar 3)) (sSetIx setW (eVar 1) (eC (.int 3)) (e2 modW (eN intN [(e2 (addW false) (e2 (addW false) (e2 (mulW false) (e2 (getW gdT) (eVar 1) (eC (.int 3))) (eC (.int 31))) (eVar 3)) (eC (.int 17)))]) (eC (.int 1000000007)))))))) sNil)
  (sSeq (sIf (tB (e2 gtW (e2 (getW gdT) (eVar 1) (eC (.int 1))) (eC (.int 0)))) (sSeq (sSet 4 (e2 modW (eN intN [(e2 (getW gdT) (eVar 1) (eC (.int 1)))]) (eVar 2)))
  (sSeq (sSetIx setW (eVar 1) (eC (.int 1)) (e2 fdivW (e2 (getW gdT) (eVar 1) (eC (.int 1))) (eVar 2)))
  (sRet (eVar 4)))) sNil)
  (sSeq (sSet 5 (e2 modW (eN intN [(e2 (mulW false) (eN intN [(e2 (addW false) (e2 (addW false) (e2 (getW gdT) (eVar 1) (eC (.int 3))) (e2 (mulW false) (eC (.int 7919)) (e2 (getW gdT) (eVar 1) (eC (.int 2))))) (eC (.int 1)))]) (eC (.int 48271)))]) (eC (.int 2147483647))))
  (sSeq (sSet 5 (e2 modW (eN intN [(e2 (mulW false) (eVar 5) (e2 (addW false) (e2 fdivW (eVar 5) (eC (.int 1009))) (eC (.int 69621))))]) (eC (.int 2147483629))))
  (sSeq (sSet 5 (e2 modW (eN intN [(e2 (mulW false) (eVar 5) (e2 (addW false) (e2 fdivW (eVar 5) (eC (.int 2003))) (eC (.int 40692))))]) (eC (.int 2147483399))))
  (sRet (e2 modW (eN intN [(e2 fdivW (eVar 5) (eC (.int 16)))]) (eVar 2)))))))))
noncomputable def b__law_wide (C : Fn → Cal) : SM := (sSeq (sSet 3 (eLc false (iRange1 (e2 fdivW (e2 (addW false) (eVar 2) (eC (.int 1))) (eC (.int 2)))) [5] (gVar 5) tYesM (eN tupN [(eC (.str ("give" : Str))), (eN tupN [])])))
  (sSeq (sWhile (tB (e2 gtW (eN lenSN [(eVar 3)]) (eC (.int 1)))) (sSeq (sSet 4 (eLc false (iRange1 (e2 fdivW (eN lenSN [(eVar 3)]) (eC (.int 2)))) [5] (gVar 5) tYesM (eN tupN [(eC (.str ("choice" : Str))), (e2 (getW gdT) (eVar 3) (e2 (mulW false) (eC (.int 2)) (eVar 5))), (e2 (getW gdT) (eVar 3) (e2 (addW false) (e2 (mulW false) (eC (.int 2)) (eVar 5)) (eC (.int 1))))])))
  (sSet 3 (e2 (addW false) (eVar 4) (eCut false (eVar 3) (some (e2 (mulW false) (eC (.int 2)) (e2 fdivW (eN lenSN [(eVar 3)]) (eC (.int 2))))) none)))))
  (sRet (e2 (getW gdT) (eVar 3) (eC (.int 0))))))
noncomputable def b__law_even (C : Fn → Cal) : SM := (sSeq (sIf (tB (e2 eqW (e2 modW (eN intN [(eVar 2)]) (eC (.int 2))) (eC (.int 1)))) (sRet (eCall (C .f__law_wide) [(eVar 0), (eVar 1), (eVar 2)])) sNil)
  (sSeq (sSet 3 (eN tupN [(e2 (getW gdT) (eN (lstN false) [(eC (.str ("alike" : Str))), (eC (.str ("unlike" : Str)))]) (eCall (C .f__law_take) [(eVar 0), (eVar 1), (eC (.int 2))])), (eN tupN [(eC (.str ("atom" : Str))), (eC (.int 1))]), (eN tupN [(eC (.str ("atom" : Str))), (eC (.str ("1" : Str)))])]))
  (sRet (eN tupN [(eC (.str ("when" : Str))), (eVar 3), (eCall (C .f__law_wide) [(eVar 0), (eVar 1), (e2 subW (eVar 2) (eC (.int 1)))])]))))
noncomputable def b__law_deep (C : Fn → Cal) : SM := (sSeq (sSet 3 (e2 (getW gdT) (eN (lstN false) [(eN tupN [(eC (.str ("none" : Str)))]), (eN tupN [(eC (.str ("give" : Str))), (eN tupN [(eN tupN [(eC (.str ("atom" : Str))), (eC (.int 1))])])])]) (eCall (C .f__law_take) [(eVar 0), (eVar 1), (eC (.int 2))])))
  (sSeq (sFor (iRange1 (e2 subW (eVar 2) (eC (.int 1)))) (gVar 4) (sSeq (sSet 5 (eCall (C .f__law_take) [(eVar 0), (eVar 1), (eC (.int 3))]))
  (sSeq (sIf (tB (e2 eqW (eVar 5) (eC (.int 0)))) (sSet 3 (eN tupN [(eC (.str ("choice" : Str))), (eVar 3), (eN tupN [(eC (.str ("none" : Str)))])])) sNil)
  (sSeq (sIf (tB (e2 eqW (eVar 5) (eC (.int 1)))) (sSet 3 (eN tupN [(eC (.str ("when" : Str))), (eN tupN [(eC (.str ("unlike" : Str))), (eN tupN [(eC (.str ("atom" : Str))), (eC (.int 1))]), (eN tupN [(eC (.str ("atom" : Str))), (eC (.int 2))])]), (eVar 3)])) sNil)
  (sIf (tB (e2 eqW (eVar 5) (eC (.int 2)))) (sSet 3 (eN tupN [(eC (.str ("last" : Str))), (eC (.str ("v" : Str))), (eN tupN [(eC (.str ("atom" : Str))), (eC (.int 3))]), (eVar 3)])) sNil)))))
  (sRet (eVar 3))))
noncomputable def b__law_named (C : Fn → Cal) : SM := (sSeq (sSet 2 (eN (lstN false) [(eC (.str ("u" : Str))), (eC (.str ("v" : Str))), (eC (.str ("w" : Str))), (eC (.str ("x" : Str)))]))
  (sSeq (sSet 3 (eN tupN [(eC (.str ("give" : Str))), (eN tupleN [(eLc false (iE (eCut false (eVar 2) none (some (eN minN [(eVar 0), (eC (.int 3))])))) [5] (gVar 5) tYesM (eN tupN [(eC (.str ("name" : Str))), (eVar 5)]))])]))
  (sSeq (sFor (iRange1 (eVar 0)) (gVar 4) (sSet 3 (eN tupN [(eC (.str ("each" : Str))), (e2 (getW gdT) (eVar 2) (e2 subW (e2 subW (eVar 0) (eC (.int 1))) (eVar 4))), (e2 (getW gdT) (eN (lstN false) [(eC (.str ("r" : Str))), (eC (.str ("s" : Str))), (eC (.str ("t" : Str))), (eC (.str ("p" : Str)))]) (e2 modW (eN intN [(eVar 4)]) (eVar 1))), (eVar 3)])))
  (sRet (eVar 3)))))
noncomputable def b__law_rowed (C : Fn → Cal) : SM := (sSeq (sSet 1 (eN tupN [(eC (.str ("none" : Str)))]))
  (sSeq (sFor (iRange1 (eVar 0)) (gVar 2) (sSet 1 (eN tupN [(eC (.str ("choice" : Str))), (eN tupN [(eC (.str ("each" : Str))), (eC (.str ("x" : Str))), (e2 (getW gdT) (eN (lstN false) [(eC (.str ("r" : Str))), (eC (.str ("s" : Str))), (eC (.str ("t" : Str))), (eC (.str ("p" : Str)))]) (eVar 2)), (eN tupN [(eC (.str ("give" : Str))), (eN tupN [(eN tupN [(eC (.str ("name" : Str))), (eC (.str ("x" : Str)))])])])]), (eVar 1)])))
  (sRet (eVar 1))))
noncomputable def b__law_kept (C : Fn → Cal) : SM := (sSeq (sSet 1 (eN tupN [(eC (.str ("give" : Str))), (eN tupN [])]))
  (sSeq (sFor (iRange1 (eVar 0)) (gVar 2) (sSet 1 (eN tupN [(eC (.str ("last" : Str))), (e2 (getW gdT) (eN (lstN false) [(eC (.str ("e" : Str))), (eC (.str ("f" : Str))), (eC (.str ("g" : Str))), (eC (.str ("h" : Str)))]) (eVar 2)), (eN tupN [(eC (.str ("atom" : Str))), (eC (.int 1))]), (eVar 1)])))
  (sRet (eVar 1))))
noncomputable def b__law_refused (C : Fn → Cal) : SM := (sSeq (sSet 1 (eC (.non)))
  (sSeq (sTry xsT subT (sExpr (eCall (C .f_row_of) [(eVar 0), (eN (dicN false) (flat [((eC (.str ("r" : Str))), (eN (lstN false) [])), ((eC (.str ("s" : Str))), (eN (lstN false) [])), ((eC (.str ("t" : Str))), (eN (lstN false) [])), ((eC (.str ("p" : Str))), (eN (lstN false) []))]))])) [(("NoOpen" : Str), some 2, (sXV 1 (fFld ("spot" : Str) fcs_spot)))])
  (sRet (eVar 1))))
noncomputable def b__law_says (C : Fn → Cal) : SM := (sRet (eAnd (eN isiN [(eVar 0), (eC (.ty "bool"))]) (e2 eqW (eVar 0) (eVar 1))))
noncomputable def b__law_told (C : Fn → Cal) : SM := (sSeq (sSet 2 (eIf (tE (eVar 1)) (eC (.non)) (eN tupN [])))
  (sRet (eAnd (e2 eqDW (eCall (C .f_open_fault) [(eVar 0)]) (eVar 2)) (eAnd (eCall (C .f__law_says) [(eCall (C .f_is_open) [(eVar 0)]), (eVar 1)]) (e2 eqDW (eCall (C .f__law_refused) [(eVar 0)]) (eVar 2))))))
noncomputable def b_law (C : Fn → Cal) : SM := (sSeq (sSet 1 (eN (lstN true) [(eC (.int 0)), (eC (.int 0)), (eC (.int 0)), (eC (.int 0))]))
  (sSeq (sFor (iRange1 (eC (.int 2))) (gVar 2) (sSeq (sSet 3 (e2 eqW (eVar 2) (eC (.int 0))))
  (sSeq (sSet 4 (eN (lstN false) [(eCall (C .f__law_even) [(eVar 0), (eVar 1), (e2 (addW false) (eC (.int 40)) (eVar 2))]), (eCall (C .f__law_deep) [(eVar 0), (eVar 1), (e2 (addW false) (eC (.int 12)) (eVar 2))]), (eCall (C .f__law_named) [(e2 (addW false) (eC (.int 3)) (eVar 2)), (eC (.int 3))])]))
  (sSeq (sSet 4 (e2 (addW false) (eVar 4) (eN (lstN false) [(eCall (C .f__law_rowed) [(e2 (addW false) (eC (.int 3)) (eVar 2))]), (eCall (C .f__law_kept) [(e2 (addW false) (eC (.int 3)) (eVar 2))])])))
  (sSeq (sIf (tB (e2 neDW (eLc false (iE (eVar 4)) [5] (gVar 5) (tNot (tE (eCall (C .f__law_told) [(eVar 5), (eVar 3)]))) (eVar 5)) (eN (lstN false) []))) (sRet (eC (.bl false))) sNil)
  (sSeq (sSet 5 (e2 (getW gdT) (eVar 4) (e2 (addW false) (eC (.int 2)) (eCall (C .f__law_take) [(eVar 0), (eVar 1), (eC (.int 3))]))))
  (sSeq (sIf (tNot (tE (eCall (C .f__law_told) [(eN tupN [(eC (.str ("choice" : Str))), (eN tupN [(eC (.str ("give" : Str))), (eN tupN [])]), (eVar 5)]), (eVar 3)]))) (sRet (eC (.bl false))) sNil)
  (sSeq (sSet 6 (eN tupN [(eC (.str ("choice" : Str))), (eVar 5), (eN tupN [(eC (.str ("give" : Str))), (eN tupN [(eN tupN [(eC (.str ("name" : Str))), (eC (.str ("x" : Str)))])])])]))
  (sSeq (sIf (tOr (tB (e2 neDW (eCall (C .f_open_fault) [(eVar 6)]) (eN tupN [(eC (.int 2)), (eC (.int 1)), (eC (.int 0))]))) (tOr (tB (e2 notBW (eCall (C .f_is_open) [(eVar 6)]) (eC (.bl false)))) (tB (e2 neDW (eCall (C .f__law_refused) [(eVar 6)]) (eN tupN [(eC (.int 2)), (eC (.int 1)), (eC (.int 0))]))))) (sRet (eC (.bl false))) sNil)
  (sSeq (sIf (tNot (tE (eVar 3))) sCnt sNil)
  (sSeq (sIf (tB (e2 neW (eCall (C .f_ways) [(e2 (getW gdT) (eVar 4) (eC (.int 0)))]) (eC (.int 20)))) (sRet (eC (.bl false))) sNil)
  (sSeq (sSet 7 (eN (lstN false) [(eCall (C .f_most_names) [(e2 (getW gdT) (eVar 4) (eC (.int 2)))]), (eCall (C .f_row_names) [(e2 (getW gdT) (eVar 4) (eC (.int 2)))]), (eCall (C .f_row_names) [(e2 (getW gdT) (eVar 4) (eC (.int 3)))]), (eCall (C .f_variables) [(e2 (getW gdT) (eVar 4) (eC (.int 4)))])]))
  (sIf (tB (e2 neDW (eVar 7) (eN (lstN false) [(eC (.int 3)), (eN (lstN false) [(eC (.str ("r" : Str))), (eC (.str ("s" : Str))), (eC (.str ("t" : Str)))]), (eN (lstN false) [(eC (.str ("r" : Str))), (eC (.str ("s" : Str))), (eC (.str ("t" : Str)))]), (eN (lstN false) [(eC (.str ("e" : Str))), (eC (.str ("f" : Str))), (eC (.str ("g" : Str)))])]))) (sRet (eC (.bl false))) sNil)))))))))))))
  (sSeq (sSet 5 (eCall (C .f__law_even) [(eVar 0), (eVar 1), (e2 (addW false) (eC (.int 1)) (eCall (C .f__law_take) [(eVar 0), (eVar 1), (eC (.int 40))]))]))
  (sRet (eCall (C .f__law_told) [(eVar 5), (eC (.bl true))])))))
noncomputable def F : Nat → Fn → Cal
  | 0, _ => fun _ _ => .bad
  | n + 1, f => match f with
    | .f_is_row => runDef 1 1 (b_is_row (F n))
    | .f_is_name => runDef 1 2 (b_is_name (F n))
    | .f_frozen => runDef 1 2 (b_frozen (F n))
    | .f_is_whole => runDef 1 1 (b_is_whole (F n))
    | .f_is_atom => runDef 1 2 (b_is_atom (F n))
    | .f_is_item => runDef 2 2 (b_is_item (F n))
    | .f_items_fault => runDef 2 3 (b_items_fault (F n))
    | .f_test_fault => runDef 2 3 (b_test_fault (F n))
    | .f_behind => runDef 2 2 (b_behind (F n))
    | .f_each_fault => runDef 2 2 (b_each_fault (F n))
    | .f_last_fault => runDef 2 2 (b_last_fault (F n))
    | .f_part_fault => runDef 2 4 (b_part_fault (F n))
    | .f_surveyed => runDef 1 8 (b_surveyed (F n))
    | .f_depth_of => runDef 1 2 (b_depth_of (F n))
    | .f_within_bounds => runDef 1 8 (b_within_bounds (F n))
    | .f_open_fault => runDef 1 2 (b_open_fault (F n))
    | .f_is_open => runDef 1 1 (b_is_open (F n))
    | .f_opened => runDef 1 2 (b_opened (F n))
    | .f_row_names => runDef 1 5 (b_row_names (F n))
    | .f_variables => runDef 1 5 (b_variables (F n))
    | .f_most_names => runDef 1 5 (b_most_names (F n))
    | .f_ways => runDef 1 5 (b_ways (F n))
    | .f_are_atoms => runDef 1 2 (b_are_atoms (F n))
    | .f_is_right_row => runDef 1 1 (b_is_right_row (F n))
    | .f_rows_for => runDef 2 4 (b_rows_for (F n))
    | .f_atom_of => runDef 2 2 (b_atom_of (F n))
    | .f_passes => runDef 2 3 (b_passes (F n))
    | .f_result_of => runDef 2 3 (b_result_of (F n))
    | .f_lead => runDef 5 8 (b_lead (F n))
    | .f_led => runDef 2 6 (b_led (F n))
    | .f_row_of => runDef 2 2 (b_row_of (F n))
    | .f__law_take => runDef 3 6 (b__law_take (F n))
    | .f__law_wide => runDef 3 6 (b__law_wide (F n))
    | .f__law_even => runDef 3 4 (b__law_even (F n))
    | .f__law_deep => runDef 3 6 (b__law_deep (F n))
    | .f__law_named => runDef 2 6 (b__law_named (F n))
    | .f__law_rowed => runDef 1 3 (b__law_rowed (F n))
    | .f__law_kept => runDef 1 3 (b__law_kept (F n))
    | .f__law_refused => runDef 1 3 (b__law_refused (F n))
    | .f__law_says => runDef 2 2 (b__law_says (F n))
    | .f__law_told => runDef 2 3 (b__law_told (F n))
    | .f_law => runDef 1 8 (b_law (F n))
theorem F_is_row (n : Nat) : F (n + 1) .f_is_row = runDef 1 1 (b_is_row (F n)) := rfl
theorem F_is_name (n : Nat) : F (n + 1) .f_is_name = runDef 1 2 (b_is_name (F n)) := rfl
theorem F_frozen (n : Nat) : F (n + 1) .f_frozen = runDef 1 2 (b_frozen (F n)) := rfl
theorem F_is_whole (n : Nat) : F (n + 1) .f_is_whole = runDef 1 1 (b_is_whole (F n)) := rfl
theorem F_is_atom (n : Nat) : F (n + 1) .f_is_atom = runDef 1 2 (b_is_atom (F n)) := rfl
theorem F_is_item (n : Nat) : F (n + 1) .f_is_item = runDef 2 2 (b_is_item (F n)) := rfl
theorem F_items_fault (n : Nat) : F (n + 1) .f_items_fault = runDef 2 3 (b_items_fault (F n)) := rfl
theorem F_test_fault (n : Nat) : F (n + 1) .f_test_fault = runDef 2 3 (b_test_fault (F n)) := rfl
theorem F_behind (n : Nat) : F (n + 1) .f_behind = runDef 2 2 (b_behind (F n)) := rfl
theorem F_each_fault (n : Nat) : F (n + 1) .f_each_fault = runDef 2 2 (b_each_fault (F n)) := rfl
theorem F_last_fault (n : Nat) : F (n + 1) .f_last_fault = runDef 2 2 (b_last_fault (F n)) := rfl
theorem F_part_fault (n : Nat) : F (n + 1) .f_part_fault = runDef 2 4 (b_part_fault (F n)) := rfl
theorem F_surveyed (n : Nat) : F (n + 1) .f_surveyed = runDef 1 8 (b_surveyed (F n)) := rfl
theorem F_depth_of (n : Nat) : F (n + 1) .f_depth_of = runDef 1 2 (b_depth_of (F n)) := rfl
theorem F_within_bounds (n : Nat) : F (n + 1) .f_within_bounds = runDef 1 8 (b_within_bounds (F n)) := rfl
theorem F_open_fault (n : Nat) : F (n + 1) .f_open_fault = runDef 1 2 (b_open_fault (F n)) := rfl
theorem F_is_open (n : Nat) : F (n + 1) .f_is_open = runDef 1 1 (b_is_open (F n)) := rfl
theorem F_opened (n : Nat) : F (n + 1) .f_opened = runDef 1 2 (b_opened (F n)) := rfl
theorem F_row_names (n : Nat) : F (n + 1) .f_row_names = runDef 1 5 (b_row_names (F n)) := rfl
theorem F_variables (n : Nat) : F (n + 1) .f_variables = runDef 1 5 (b_variables (F n)) := rfl
theorem F_most_names (n : Nat) : F (n + 1) .f_most_names = runDef 1 5 (b_most_names (F n)) := rfl
theorem F_ways (n : Nat) : F (n + 1) .f_ways = runDef 1 5 (b_ways (F n)) := rfl
theorem F_are_atoms (n : Nat) : F (n + 1) .f_are_atoms = runDef 1 2 (b_are_atoms (F n)) := rfl
theorem F_is_right_row (n : Nat) : F (n + 1) .f_is_right_row = runDef 1 1 (b_is_right_row (F n)) := rfl
theorem F_rows_for (n : Nat) : F (n + 1) .f_rows_for = runDef 2 4 (b_rows_for (F n)) := rfl
theorem F_atom_of (n : Nat) : F (n + 1) .f_atom_of = runDef 2 2 (b_atom_of (F n)) := rfl
theorem F_passes (n : Nat) : F (n + 1) .f_passes = runDef 2 3 (b_passes (F n)) := rfl
theorem F_result_of (n : Nat) : F (n + 1) .f_result_of = runDef 2 3 (b_result_of (F n)) := rfl
theorem F_lead (n : Nat) : F (n + 1) .f_lead = runDef 5 8 (b_lead (F n)) := rfl
theorem F_led (n : Nat) : F (n + 1) .f_led = runDef 2 6 (b_led (F n)) := rfl
theorem F_row_of (n : Nat) : F (n + 1) .f_row_of = runDef 2 2 (b_row_of (F n)) := rfl
theorem F__law_take (n : Nat) : F (n + 1) .f__law_take = runDef 3 6 (b__law_take (F n)) := rfl
theorem F__law_wide (n : Nat) : F (n + 1) .f__law_wide = runDef 3 6 (b__law_wide (F n)) := rfl
theorem F__law_even (n : Nat) : F (n + 1) .f__law_even = runDef 3 4 (b__law_even (F n)) := rfl
theorem F__law_deep (n : Nat) : F (n + 1) .f__law_deep = runDef 3 6 (b__law_deep (F n)) := rfl
theorem F__law_named (n : Nat) : F (n + 1) .f__law_named = runDef 2 6 (b__law_named (F n)) := rfl
theorem F__law_rowed (n : Nat) : F (n + 1) .f__law_rowed = runDef 1 3 (b__law_rowed (F n)) := rfl
theorem F__law_kept (n : Nat) : F (n + 1) .f__law_kept = runDef 1 3 (b__law_kept (F n)) := rfl
theorem F__law_refused (n : Nat) : F (n + 1) .f__law_refused = runDef 1 3 (b__law_refused (F n)) := rfl
theorem F__law_says (n : Nat) : F (n + 1) .f__law_says = runDef 2 2 (b__law_says (F n)) := rfl
theorem F__law_told (n : Nat) : F (n + 1) .f__law_told = runDef 2 3 (b__law_told (F n)) := rfl
theorem F_law (n : Nat) : F (n + 1) .f_law = runDef 1 8 (b_law (F n)) := rfl
end Sh

set_option Elab.async false
set_option linter.all false
set_option maxRecDepth 100000
set_option maxHeartbeats 4000000
/-! each def's body has its model, printed by mk.py -/
namespace Sh
open PySem PySem.Spec PyProof.Rows L2
/-- the facts of the top -/
structure SF (K : PySem.W.Frag) (mg : Str → Option Value) (w : World) : Prop where
  gd : GdOk K mg w gdT
  cf : CfOk K mg cfT
  b_bool : mg ("bool" : Str) = none
  b_dict : mg ("dict" : Str) = none
  b_int : mg ("int" : Str) = none
  b_isinstance : mg ("isinstance" : Str) = none
  b_len : mg ("len" : Str) = none
  b_list : mg ("list" : Str) = none
  b_max : mg ("max" : Str) = none
  b_min : mg ("min" : Str) = none
  b_ord : mg ("ord" : Str) = none
  b_range : mg ("range" : Str) = none
  b_set : mg ("set" : Str) = none
  b_sorted : mg ("sorted" : Str) = none
  b_str : mg ("str" : Str) = none
  b_tuple : mg ("tuple" : Str) = none
  g_LENGTHS : GV K mg ("LENGTHS" : Str) (.glo ("LENGTHS" : Str))
  g_MOST_ATOMS : GV K mg ("MOST_ATOMS" : Str) (c_MOST_ATOMS)
  g_MOST_DEEP : GV K mg ("MOST_DEEP" : Str) (c_MOST_DEEP)
  g_MOST_ITEMS : GV K mg ("MOST_ITEMS" : Str) (c_MOST_ITEMS)
  g_MOST_NAMES : GV K mg ("MOST_NAMES" : Str) (c_MOST_NAMES)
  g_MOST_PARTS : GV K mg ("MOST_PARTS" : Str) (c_MOST_PARTS)
  g_OPPOSITES : GV K mg ("OPPOSITES" : Str) (.glo ("OPPOSITES" : Str))
  g_WORDS : GV K mg ("WORDS" : Str) (c_WORDS)
  fl_spot : FlOk K mg ("spot" : Str) fcs_spot
  x_NoEnvironment : ∃ C, mg ("NoEnvironment" : Str) = some (.ref C)
  x_NoOpen : ∃ C, mg ("NoOpen" : Str) = some (.ref C)
  ex : ExOk K mg xsT csT subT
/-- .. and every def keeps its promise at depth k -/
structure TT (P : Program) (w : World) (K : PySem.W.Frag) (mg : Str → Option Value) (base : Heap) (k : Nat) (C : Fn → Cal) : Prop extends SF K mg w where
  f__law_deep : GlOk P w K mg base k ("_law_deep" : Str) ["script", "pool", "many"] (C .f__law_deep)
  f__law_even : GlOk P w K mg base k ("_law_even" : Str) ["script", "pool", "many"] (C .f__law_even)
  f__law_kept : GlOk P w K mg base k ("_law_kept" : Str) ["many"] (C .f__law_kept)
  f__law_named : GlOk P w K mg base k ("_law_named" : Str) ["many", "rows"] (C .f__law_named)
  f__law_refused : GlOk P w K mg base k ("_law_refused" : Str) ["thing"] (C .f__law_refused)
  f__law_rowed : GlOk P w K mg base k ("_law_rowed" : Str) ["many"] (C .f__law_rowed)
  f__law_says : GlOk P w K mg base k ("_law_says" : Str) ["value", "due"] (C .f__law_says)
  f__law_take : GlOk P w K mg base k ("_law_take" : Str) ["script", "pool", "many"] (C .f__law_take)
  f__law_told : GlOk P w K mg base k ("_law_told" : Str) ["thing", "is_right"] (C .f__law_told)
  f__law_wide : GlOk P w K mg base k ("_law_wide" : Str) ["script", "pool", "many"] (C .f__law_wide)
  f_are_atoms : GlOk P w K mg base k ("are_atoms" : Str) ["value"] (C .f_are_atoms)
  f_atom_of : GlOk P w K mg base k ("atom_of" : Str) ["item", "names"] (C .f_atom_of)
  f_behind : GlOk P w K mg base k ("behind" : Str) ["index", "fault"] (C .f_behind)
  f_depth_of : GlOk P w K mg base k ("depth_of" : Str) ["expression"] (C .f_depth_of)
  f_each_fault : GlOk P w K mg base k ("each_fault" : Str) ["part", "given"] (C .f_each_fault)
  f_frozen : GlOk P w K mg base k ("frozen" : Str) ["value"] (C .f_frozen)
  f_is_atom : GlOk P w K mg base k ("is_atom" : Str) ["value"] (C .f_is_atom)
  f_is_item : GlOk P w K mg base k ("is_item" : Str) ["value", "given"] (C .f_is_item)
  f_is_name : GlOk P w K mg base k ("is_name" : Str) ["value"] (C .f_is_name)
  f_is_open : GlOk P w K mg base k ("is_open" : Str) ["thing"] (C .f_is_open)
  f_is_right_row : GlOk P w K mg base k ("is_right_row" : Str) ["value"] (C .f_is_right_row)
  f_is_row : GlOk P w K mg base k ("is_row" : Str) ["value"] (C .f_is_row)
  f_is_whole : GlOk P w K mg base k ("is_whole" : Str) ["value"] (C .f_is_whole)
  f_items_fault : GlOk P w K mg base k ("items_fault" : Str) ["items", "given"] (C .f_items_fault)
  f_last_fault : GlOk P w K mg base k ("last_fault" : Str) ["part", "given"] (C .f_last_fault)
  f_lead : GlOk P w K mg base k ("lead" : Str) ["part", "rows", "names", "row", "lasting"] (C .f_lead)
  f_led : GlOk P w K mg base k ("led" : Str) ["expression", "environment"] (C .f_led)
  f_most_names : GlOk P w K mg base k ("most_names" : Str) ["expression"] (C .f_most_names)
  f_open_fault : GlOk P w K mg base k ("open_fault" : Str) ["thing"] (C .f_open_fault)
  f_opened : GlOk P w K mg base k ("opened" : Str) ["expression"] (C .f_opened)
  f_part_fault : GlOk P w K mg base k ("part_fault" : Str) ["part", "given"] (C .f_part_fault)
  f_passes : GlOk P w K mg base k ("passes" : Str) ["test", "names"] (C .f_passes)
  f_result_of : GlOk P w K mg base k ("result_of" : Str) ["items", "names"] (C .f_result_of)
  f_row_names : GlOk P w K mg base k ("row_names" : Str) ["expression"] (C .f_row_names)
  f_row_of : GlOk P w K mg base k ("row_of" : Str) ["expression", "environment"] (C .f_row_of)
  f_rows_for : GlOk P w K mg base k ("rows_for" : Str) ["names", "environment"] (C .f_rows_for)
  f_surveyed : GlOk P w K mg base k ("surveyed" : Str) ["expression"] (C .f_surveyed)
  f_test_fault : GlOk P w K mg base k ("test_fault" : Str) ["test", "given"] (C .f_test_fault)
  f_variables : GlOk P w K mg base k ("variables" : Str) ["expression"] (C .f_variables)
  f_ways : GlOk P w K mg base k ("ways" : Str) ["expression"] (C .f_ways)
  f_within_bounds : GlOk P w K mg base k ("within_bounds" : Str) ["expression"] (C .f_within_bounds)
  rx_NoEnvironment : RxOk P K mg base ("NoEnvironment" : Str) 1 [(("name" : Str), 0)]
  rx_NoOpen : RxOk P K mg base ("NoOpen" : Str) 1 [(("spot" : Str), 0)]
abbrev N_is_row : List Str := ["value"]
theorem sc_is_row : FnScope N_is_row ["value"] (defScope s_is_row) := ⟨rfl, rfl, rfl, by decide +kernel, rfl, by decide +kernel, by decide +kernel⟩
theorem d_is_row {P : Program} {w : World} {K : PySem.W.Frag} {mg : Str → Option Value} {base : Heap} {k : Nat} {C : Fn → Cal} (T : TT P w K mg base k C) : Bod P w K mg base (k + 1) N_is_row ("is_row" : Str) (defScope s_is_row) (defBody s_is_row) (b_is_row C) := fun f cd A outer s H E hr => by
  have hr0 : Room k (dX P w K mg base N_is_row ("is_row" : Str) (defScope s_is_row) f cd A outer s H E).A := hr.mono (Nat.le_succ k)
  exact (ms_one (ms_ret (m_callB snd_isi call_isiM rfl T.b_isinstance boot_isinstance (ma_cons (m_var (pv 0)) (ma_cons (m_tup (ma_cons (m_ty rfl T.b_list boot_list) (ma_cons (m_ty rfl T.b_tuple boot_tuple) ma_nil))) ma_nil)))))
abbrev N_is_name : List Str := ["value", "letter"]
theorem sc_is_name : FnScope N_is_name ["value"] (defScope s_is_name) := ⟨rfl, rfl, rfl, by decide +kernel, rfl, by decide +kernel, by decide +kernel⟩
theorem d_is_name {P : Program} {w : World} {K : PySem.W.Frag} {mg : Str → Option Value} {base : Heap} {k : Nat} {C : Fn → Cal} (T : TT P w K mg base k C) : Bod P w K mg base (k + 1) N_is_name ("is_name" : Str) (defScope s_is_name) (defBody s_is_name) (b_is_name C) := fun f cd A outer s H E hr => by
  have hr0 : Room k (dX P w K mg base N_is_name ("is_name" : Str) (defScope s_is_name) f cd A outer s H E).A := hr.mono (Nat.le_succ k)
  exact (ms_cons (ms_if (mw_pt (mw_or (mt_not (mt_truth (m_callB snd_isi call_isiM rfl T.b_isinstance boot_isinstance (ma_cons (m_var (pv 0)) (ma_cons (m_ty rfl T.b_str boot_str) ma_nil))))) (mw_or1 (mt_not (mt_chain op_le op_le snd_cmp snd_cmp m_int (m_callB snd_lenS call_lenS rfl T.b_len boot_len (ma_cons (m_var (pv 0)) ma_nil)) m_int))))) (ms_one (ms_ret m_bl)) ms_nil)
  (ms_cons (ms_for (L2.passes_of rfl) rfl (mi_any (m_var (pv 0))) (mg_name (i := 1) sc_is_name.nd rfl (by first | exact .inl rfl | exact .inr rfl)) (ms_one (ms_if (mt_not (mt_chain op_le op_le snd_cmp snd_cmp m_int (m_callB snd_ord call_ord rfl T.b_ord boot_ord (ma_cons (m_var (pv 1)) ma_nil)) m_int)) (ms_one (ms_ret m_bl)) ms_nil)))
  (ms_one (ms_ret (m_cmp (op_notInM (hu_of hr)) (snd_notIn T.gd) (m_var (pv 0)) (m_gv T.g_WORDS rfl) (by rfl))))))
abbrev N_frozen : List Str := ["value", "item"]
theorem sc_frozen : FnScope N_frozen ["value"] (defScope s_frozen) := ⟨rfl, rfl, rfl, by decide +kernel, rfl, by decide +kernel, by decide +kernel⟩
theorem d_frozen {P : Program} {w : World} {K : PySem.W.Frag} {mg : Str → Option Value} {base : Heap} {k : Nat} {C : Fn → Cal} (T : TT P w K mg base k C) : Bod P w K mg base (k + 1) N_frozen ("frozen" : Str) (defScope s_frozen) (defBody s_frozen) (b_frozen C) := fun f cd A outer s H E hr => by
  have hr0 : Room k (dX P w K mg base N_frozen ("frozen" : Str) (defScope s_frozen) f cd A outer s H E).A := hr.mono (Nat.le_succ k)
  exact (ms_cons (ms_if (mt_truth (m_call T.f_is_row hr0 (L2.takes_of rfl rfl rfl rfl) rfl (ma_cons (m_var (pv 0)) ma_nil))) (ms_one (ms_ret (m_callTy snd_tuple call_tuple_of rfl T.b_tuple boot_tuple (ma_cons (m_lc (own := [(("item" : Str), 1)]) rfl sc_frozen.nd (mi_any (m_var (pv 0))) (blkOk_by (by rfl)) (fun _ _ _ _ _ => (mgo_name (i := 1) (by decide) sc_frozen.nd rfl (by first | exact .inl rfl | exact .inr rfl))) (fun _ _ _ _ _ => mts_nil) (fun _ _ _ _ _ => (m_call T.f_frozen hr0 takes0 rfl (ma_cons (m_var (pv 1)) ma_nil)))) ma_nil)))) ms_nil)
  (ms_one (ms_ret (m_var (pv 0)))))
abbrev N_is_whole : List Str := ["value"]
theorem sc_is_whole : FnScope N_is_whole ["value"] (defScope s_is_whole) := ⟨rfl, rfl, rfl, by decide +kernel, rfl, by decide +kernel, by decide +kernel⟩
theorem d_is_whole {P : Program} {w : World} {K : PySem.W.Frag} {mg : Str → Option Value} {base : Heap} {k : Nat} {C : Fn → Cal} (T : TT P w K mg base k C) : Bod P w K mg base (k + 1) N_is_whole ("is_whole" : Str) (defScope s_is_whole) (defBody s_is_whole) (b_is_whole C) := fun f cd A outer s H E hr => by
  have hr0 : Room k (dX P w K mg base N_is_whole ("is_whole" : Str) (defScope s_is_whole) f cd A outer s H E).A := hr.mono (Nat.le_succ k)
  exact (ms_one (ms_ret (m_and (m_callB snd_isi call_isiM rfl T.b_isinstance boot_isinstance (ma_cons (m_var (pv 0)) (ma_cons (m_ty rfl T.b_int boot_int) ma_nil))) (m_one (m_not (m_callB snd_isi call_isiM rfl T.b_isinstance boot_isinstance (ma_cons (m_var (pv 0)) (ma_cons (m_ty rfl T.b_bool boot_bool) ma_nil))))))))
abbrev N_is_atom : List Str := ["value", "sign"]
theorem sc_is_atom : FnScope N_is_atom ["value"] (defScope s_is_atom) := ⟨rfl, rfl, rfl, by decide +kernel, rfl, by decide +kernel, by decide +kernel⟩
theorem d_is_atom {P : Program} {w : World} {K : PySem.W.Frag} {mg : Str → Option Value} {base : Heap} {k : Nat} {C : Fn → Cal} (T : TT P w K mg base k C) : Bod P w K mg base (k + 1) N_is_atom ("is_atom" : Str) (defScope s_is_atom) (defBody s_is_atom) (b_is_atom C) := fun f cd A outer s H E hr => by
  have hr0 : Room k (dX P w K mg base N_is_atom ("is_atom" : Str) (defScope s_is_atom) f cd A outer s H E).A := hr.mono (Nat.le_succ k)
  exact (ms_cons (ms_if (mt_truth (m_call T.f_is_whole hr0 (L2.takes_of rfl rfl rfl rfl) rfl (ma_cons (m_var (pv 0)) ma_nil))) (ms_one (ms_ret m_bl)) ms_nil)
  (ms_cons (ms_if (mw_pt (mw_or (mt_not (mt_truth (m_callB snd_isi call_isiM rfl T.b_isinstance boot_isinstance (ma_cons (m_var (pv 0)) (ma_cons (m_ty rfl T.b_str boot_str) ma_nil))))) (mw_or1 (mt_cmp op_gt snd_cmp (m_callB snd_lenS call_lenS rfl T.b_len boot_len (ma_cons (m_var (pv 0)) ma_nil)) m_int (by rfl))))) (ms_one (ms_ret m_bl)) ms_nil)
  (ms_cons (ms_for (L2.passes_of rfl) rfl (mi_any (m_var (pv 0))) (mg_name (i := 1) sc_is_atom.nd rfl (by first | exact .inl rfl | exact .inr rfl)) (ms_one (ms_if (mw_pt (mw_or (mt_not (mt_chain op_le op_le snd_cmp snd_cmp m_int (m_callB snd_ord call_ord rfl T.b_ord boot_ord (ma_cons (m_var (pv 1)) ma_nil)) m_int)) (mw_or1 (mt_cmp op_eq snd_eq (m_callB snd_ord call_ord rfl T.b_ord boot_ord (ma_cons (m_var (pv 1)) ma_nil)) m_int (by rfl))))) (ms_one (ms_ret m_bl)) ms_nil)))
  (ms_one (ms_ret m_bl)))))
abbrev N_is_item : List Str := ["value", "given"]
theorem sc_is_item : FnScope N_is_item ["value", "given"] (defScope s_is_item) := ⟨rfl, rfl, rfl, by decide +kernel, rfl, by decide +kernel, by decide +kernel⟩
theorem d_is_item {P : Program} {w : World} {K : PySem.W.Frag} {mg : Str → Option Value} {base : Heap} {k : Nat} {C : Fn → Cal} (T : TT P w K mg base k C) : Bod P w K mg base (k + 1) N_is_item ("is_item" : Str) (defScope s_is_item) (defBody s_is_item) (b_is_item C) := fun f cd A outer s H E hr => by
  have hr0 : Room k (dX P w K mg base N_is_item ("is_item" : Str) (defScope s_is_item) f cd A outer s H E).A := hr.mono (Nat.le_succ k)
  exact (ms_cons (ms_if (mw_pt (mw_or (mt_not (mt_truth (m_call T.f_is_row hr0 (L2.takes_of rfl rfl rfl rfl) rfl (ma_cons (m_var (pv 0)) ma_nil)))) (mw_or1 (mt_cmp op_ne snd_ne (m_callB snd_lenS call_lenS rfl T.b_len boot_len (ma_cons (m_var (pv 0)) ma_nil)) m_int (by rfl))))) (ms_one (ms_ret m_bl)) ms_nil)
  (ms_cons (ms_if (mt_cmp op_eq snd_eq (m_ix (ix_M (hu_of hr)) (snd_get T.gd) (m_var (pv 0)) m_int (by intro _ _; rfl)) m_str (by rfl)) (ms_one (ms_ret (m_and (m_call T.f_is_name hr0 (L2.takes_of rfl rfl rfl rfl) rfl (ma_cons (m_ix (ix_M (hu_of hr)) (snd_get T.gd) (m_var (pv 0)) m_int (by intro _ _; rfl)) ma_nil)) (m_one (m_cmp (op_inM (hu_of hr)) (snd_in T.gd) (m_ix (ix_M (hu_of hr)) (snd_get T.gd) (m_var (pv 0)) m_int (by intro _ _; rfl)) (m_var (pv 1)) (by rfl)))))) ms_nil)
  (ms_one (ms_ret (m_and (m_cmp op_eq snd_eq (m_ix (ix_M (hu_of hr)) (snd_get T.gd) (m_var (pv 0)) m_int (by intro _ _; rfl)) m_str (by rfl)) (m_one (m_call T.f_is_atom hr0 (L2.takes_of rfl rfl rfl rfl) rfl (ma_cons (m_ix (ix_M (hu_of hr)) (snd_get T.gd) (m_var (pv 0)) m_int (by intro _ _; rfl)) ma_nil))))))))
abbrev N_items_fault : List Str := ["items", "given", "at"]
theorem sc_items_fault : FnScope N_items_fault ["items", "given"] (defScope s_items_fault) := ⟨rfl, rfl, rfl, by decide +kernel, rfl, by decide +kernel, by decide +kernel⟩
theorem d_items_fault {P : Program} {w : World} {K : PySem.W.Frag} {mg : Str → Option Value} {base : Heap} {k : Nat} {C : Fn → Cal} (T : TT P w K mg base k C) : Bod P w K mg base (k + 1) N_items_fault ("items_fault" : Str) (defScope s_items_fault) (defBody s_items_fault) (b_items_fault C) := fun f cd A outer s H E hr => by
  have hr0 : Room k (dX P w K mg base N_items_fault ("items_fault" : Str) (defScope s_items_fault) f cd A outer s H E).A := hr.mono (Nat.le_succ k)
  exact (ms_cons (ms_if (mw_pt (mw_or (mt_not (mt_truth (m_call T.f_is_row hr0 (L2.takes_of rfl rfl rfl rfl) rfl (ma_cons (m_var (pv 0)) ma_nil)))) (mw_or1 (mt_cmp op_gt snd_cmp (m_callB snd_lenS call_lenS rfl T.b_len boot_len (ma_cons (m_var (pv 0)) ma_nil)) (m_gv T.g_MOST_ITEMS rfl) (by rfl))))) (ms_one (ms_ret (m_tup ma_nil))) ms_nil)
  (ms_cons (ms_for (L2.passes_of rfl) rfl (mi_range1 rfl T.b_range (m_callB snd_lenS call_lenS rfl T.b_len boot_len (ma_cons (m_var (pv 0)) ma_nil))) (mg_name (i := 2) sc_items_fault.nd rfl (by first | exact .inl rfl | exact .inr rfl)) (ms_one (ms_if (mt_not (mt_truth (m_call T.f_is_item hr0 (L2.takes_of rfl rfl rfl rfl) rfl (ma_cons (m_ix (ix_M (hu_of hr)) (snd_get T.gd) (m_var (pv 0)) (m_var (pv 2)) (by intro _ _; rfl)) (ma_cons (m_var (pv 1)) ma_nil))))) (ms_one (ms_ret (m_tup (ma_cons (m_var (pv 2)) ma_nil)))) ms_nil)))
  (ms_one (ms_ret m_non))))
abbrev N_test_fault : List Str := ["test", "given", "at"]
theorem sc_test_fault : FnScope N_test_fault ["test", "given"] (defScope s_test_fault) := ⟨rfl, rfl, rfl, by decide +kernel, rfl, by decide +kernel, by decide +kernel⟩
theorem d_test_fault {P : Program} {w : World} {K : PySem.W.Frag} {mg : Str → Option Value} {base : Heap} {k : Nat} {C : Fn → Cal} (T : TT P w K mg base k C) : Bod P w K mg base (k + 1) N_test_fault ("test_fault" : Str) (defScope s_test_fault) (defBody s_test_fault) (b_test_fault C) := fun f cd A outer s H E hr => by
  have hr0 : Room k (dX P w K mg base N_test_fault ("test_fault" : Str) (defScope s_test_fault) f cd A outer s H E).A := hr.mono (Nat.le_succ k)
  exact (ms_cons (ms_if (mw_pt (mw_or (mt_not (mt_truth (m_call T.f_is_row hr0 (L2.takes_of rfl rfl rfl rfl) rfl (ma_cons (m_var (pv 0)) ma_nil)))) (mw_or (mt_cmp op_ne snd_ne (m_callB snd_lenS call_lenS rfl T.b_len boot_len (ma_cons (m_var (pv 0)) ma_nil)) m_int (by rfl)) (mw_or (mt_not (mt_truth (m_callB snd_isi call_isiM rfl T.b_isinstance boot_isinstance (ma_cons (m_ix (ix_M (hu_of hr)) (snd_get T.gd) (m_var (pv 0)) m_int (by intro _ _; rfl)) (ma_cons (m_ty rfl T.b_str boot_str) ma_nil))))) (mw_or1 (mt_cmp (op_notInM (hu_of hr)) (snd_notIn T.gd) (m_ix (ix_M (hu_of hr)) (snd_get T.gd) (m_var (pv 0)) m_int (by intro _ _; rfl)) (m_gv T.g_OPPOSITES rfl) (by rfl))))))) (ms_one (ms_ret (m_tup ma_nil))) ms_nil)
  (ms_cons (ms_for (L2.passes_of rfl) rfl (mi_any (m_tup (ma_cons m_int (ma_cons m_int ma_nil)))) (mg_name (i := 2) sc_test_fault.nd rfl (by first | exact .inl rfl | exact .inr rfl)) (ms_one (ms_if (mt_not (mt_truth (m_call T.f_is_item hr0 (L2.takes_of rfl rfl rfl rfl) rfl (ma_cons (m_ix (ix_M (hu_of hr)) (snd_get T.gd) (m_var (pv 0)) (m_var (pv 2)) (by intro _ _; rfl)) (ma_cons (m_var (pv 1)) ma_nil))))) (ms_one (ms_ret (m_tup (ma_cons (m_var (pv 2)) ma_nil)))) ms_nil)))
  (ms_one (ms_ret m_non))))
abbrev N_behind : List Str := ["index", "fault"]
theorem sc_behind : FnScope N_behind ["index", "fault"] (defScope s_behind) := ⟨rfl, rfl, rfl, by decide +kernel, rfl, by decide +kernel, by decide +kernel⟩
theorem d_behind {P : Program} {w : World} {K : PySem.W.Frag} {mg : Str → Option Value} {base : Heap} {k : Nat} {C : Fn → Cal} (T : TT P w K mg base k C) : Bod P w K mg base (k + 1) N_behind ("behind" : Str) (defScope s_behind) (defBody s_behind) (b_behind C) := fun f cd A outer s H E hr => by
  have hr0 : Room k (dX P w K mg base N_behind ("behind" : Str) (defScope s_behind) f cd A outer s H E).A := hr.mono (Nat.le_succ k)
  exact (ms_cons (ms_if (mt_cmp op_isN snd_isN (m_var (pv 1)) m_non (by rfl)) (ms_one (ms_ret m_non)) ms_nil)
  (ms_one (ms_ret (m_op op_addM snd_add (m_tup (ma_cons (m_var (pv 0)) ma_nil)) (m_var (pv 1))))))
abbrev N_each_fault : List Str := ["part", "given"]
theorem sc_each_fault : FnScope N_each_fault ["part", "given"] (defScope s_each_fault) := ⟨rfl, rfl, rfl, by decide +kernel, rfl, by decide +kernel, by decide +kernel⟩
theorem d_each_fault {P : Program} {w : World} {K : PySem.W.Frag} {mg : Str → Option Value} {base : Heap} {k : Nat} {C : Fn → Cal} (T : TT P w K mg base k C) : Bod P w K mg base (k + 1) N_each_fault ("each_fault" : Str) (defScope s_each_fault) (defBody s_each_fault) (b_each_fault C) := fun f cd A outer s H E hr => by
  have hr0 : Room k (dX P w K mg base N_each_fault ("each_fault" : Str) (defScope s_each_fault) f cd A outer s H E).A := hr.mono (Nat.le_succ k)
  exact (ms_cons (ms_if (mw_pt (mw_or (mt_not (mt_truth (m_call T.f_is_name hr0 (L2.takes_of rfl rfl rfl rfl) rfl (ma_cons (m_ix (ix_M (hu_of hr)) (snd_get T.gd) (m_var (pv 0)) m_int (by intro _ _; rfl)) ma_nil)))) (mw_or1 (mt_cmp (op_inM (hu_of hr)) (snd_in T.gd) (m_ix (ix_M (hu_of hr)) (snd_get T.gd) (m_var (pv 0)) m_int (by intro _ _; rfl)) (m_var (pv 1)) (by rfl))))) (ms_one (ms_ret (m_tup (ma_cons m_int ma_nil)))) ms_nil)
  (ms_cons (ms_if (mt_not (mt_truth (m_call T.f_is_name hr0 (L2.takes_of rfl rfl rfl rfl) rfl (ma_cons (m_ix (ix_M (hu_of hr)) (snd_get T.gd) (m_var (pv 0)) m_int (by intro _ _; rfl)) ma_nil)))) (ms_one (ms_ret (m_tup (ma_cons m_int ma_nil)))) ms_nil)
  (ms_one (ms_ret (m_call T.f_behind hr0 (L2.takes_of rfl rfl rfl rfl) rfl (ma_cons m_int (ma_cons (m_call T.f_part_fault hr0 (L2.takes_of rfl rfl rfl rfl) rfl (ma_cons (m_ix (ix_M (hu_of hr)) (snd_get T.gd) (m_var (pv 0)) m_int (by intro _ _; rfl)) (ma_cons (m_op op_addM snd_add (m_var (pv 1)) (m_tup (ma_cons (m_ix (ix_M (hu_of hr)) (snd_get T.gd) (m_var (pv 0)) m_int (by intro _ _; rfl)) ma_nil))) ma_nil))) ma_nil)))))))
abbrev N_last_fault : List Str := ["part", "given"]
theorem sc_last_fault : FnScope N_last_fault ["part", "given"] (defScope s_last_fault) := ⟨rfl, rfl, rfl, by decide +kernel, rfl, by decide +kernel, by decide +kernel⟩
theorem d_last_fault {P : Program} {w : World} {K : PySem.W.Frag} {mg : Str → Option Value} {base : Heap} {k : Nat} {C : Fn → Cal} (T : TT P w K mg base k C) : Bod P w K mg base (k + 1) N_last_fault ("last_fault" : Str) (defScope s_last_fault) (defBody s_last_fault) (b_last_fault C) := fun f cd A outer s H E hr => by
  have hr0 : Room k (dX P w K mg base N_last_fault ("last_fault" : Str) (defScope s_last_fault) f cd A outer s H E).A := hr.mono (Nat.le_succ k)
  exact (ms_cons (ms_if (mt_not (mt_truth (m_call T.f_is_name hr0 (L2.takes_of rfl rfl rfl rfl) rfl (ma_cons (m_ix (ix_M (hu_of hr)) (snd_get T.gd) (m_var (pv 0)) m_int (by intro _ _; rfl)) ma_nil)))) (ms_one (ms_ret (m_tup (ma_cons m_int ma_nil)))) ms_nil)
  (ms_cons (ms_if (mt_not (mt_truth (m_call T.f_is_item hr0 (L2.takes_of rfl rfl rfl rfl) rfl (ma_cons (m_ix (ix_M (hu_of hr)) (snd_get T.gd) (m_var (pv 0)) m_int (by intro _ _; rfl)) (ma_cons (m_var (pv 1)) ma_nil))))) (ms_one (ms_ret (m_tup (ma_cons m_int ma_nil)))) ms_nil)
  (ms_one (ms_ret (m_call T.f_behind hr0 (L2.takes_of rfl rfl rfl rfl) rfl (ma_cons m_int (ma_cons (m_call T.f_part_fault hr0 (L2.takes_of rfl rfl rfl rfl) rfl (ma_cons (m_ix (ix_M (hu_of hr)) (snd_get T.gd) (m_var (pv 0)) m_int (by intro _ _; rfl)) (ma_cons (m_var (pv 1)) ma_nil))) ma_nil)))))))
abbrev N_part_fault : List Str := ["part", "given", "word", "fault"]
theorem sc_part_fault : FnScope N_part_fault ["part", "given"] (defScope s_part_fault) := ⟨rfl, rfl, rfl, by decide +kernel, rfl, by decide +kernel, by decide +kernel⟩
theorem d_part_fault {P : Program} {w : World} {K : PySem.W.Frag} {mg : Str → Option Value} {base : Heap} {k : Nat} {C : Fn → Cal} (T : TT P w K mg base k C) : Bod P w K mg base (k + 1) N_part_fault ("part_fault" : Str) (defScope s_part_fault) (defBody s_part_fault) (b_part_fault C) := fun f cd A outer s H E hr => by
  have hr0 : Room k (dX P w K mg base N_part_fault ("part_fault" : Str) (defScope s_part_fault) f cd A outer s H E).A := hr.mono (Nat.le_succ k)
  exact (ms_cons (ms_if (mw_pt (mw_or (mt_not (mt_truth (m_call T.f_is_row hr0 (L2.takes_of rfl rfl rfl rfl) rfl (ma_cons (m_var (pv 0)) ma_nil)))) (mw_or (mt_cmp op_eq snd_eq (m_callB snd_lenS call_lenS rfl T.b_len boot_len (ma_cons (m_var (pv 0)) ma_nil)) m_int (by rfl)) (mw_or (mt_not (mt_truth (m_callB snd_isi call_isiM rfl T.b_isinstance boot_isinstance (ma_cons (m_ix (ix_M (hu_of hr)) (snd_get T.gd) (m_var (pv 0)) m_int (by intro _ _; rfl)) (ma_cons (m_ty rfl T.b_str boot_str) ma_nil))))) (mw_or1 (mt_cmp (op_notInM (hu_of hr)) (snd_notIn T.gd) (m_ix (ix_M (hu_of hr)) (snd_get T.gd) (m_var (pv 0)) m_int (by intro _ _; rfl)) (m_gv T.g_LENGTHS rfl) (by rfl))))))) (ms_one (ms_ret (m_tup ma_nil))) ms_nil)
  (ms_cons (ms_set (i := 2) sc_part_fault.nd rfl (by first | exact .inl rfl | exact .inr rfl) (m_ix (ix_M (hu_of hr)) (snd_get T.gd) (m_var (pv 0)) m_int (by intro _ _; rfl)))
  (ms_cons (ms_if (mt_cmp op_ne snd_ne (m_callB snd_lenS call_lenS rfl T.b_len boot_len (ma_cons (m_var (pv 0)) ma_nil)) (m_ix (ix_M (hu_of hr)) (snd_get T.gd) (m_gv T.g_LENGTHS rfl) (m_var (pv 2)) (by intro _ _; rfl)) (by rfl)) (ms_one (ms_ret (m_tup ma_nil))) ms_nil)
  (ms_cons (ms_if (mt_cmp op_eq snd_eq (m_var (pv 2)) m_str (by rfl)) (ms_one (ms_ret m_non)) ms_nil)
  (ms_cons (ms_if (mt_cmp op_eq snd_eq (m_var (pv 2)) m_str (by rfl)) (ms_one (ms_ret (m_call T.f_behind hr0 (L2.takes_of rfl rfl rfl rfl) rfl (ma_cons m_int (ma_cons (m_call T.f_items_fault hr0 (L2.takes_of rfl rfl rfl rfl) rfl (ma_cons (m_ix (ix_M (hu_of hr)) (snd_get T.gd) (m_var (pv 0)) m_int (by intro _ _; rfl)) (ma_cons (m_var (pv 1)) ma_nil))) ma_nil))))) ms_nil)
  (ms_cons (ms_if (mt_cmp op_eq snd_eq (m_var (pv 2)) m_str (by rfl)) (ms_one (ms_ret (m_call T.f_each_fault hr0 (L2.takes_of rfl rfl rfl rfl) rfl (ma_cons (m_var (pv 0)) (ma_cons (m_var (pv 1)) ma_nil))))) ms_nil)
  (ms_cons (ms_if (mt_cmp op_eq snd_eq (m_var (pv 2)) m_str (by rfl)) (ms_one (ms_ret (m_call T.f_last_fault hr0 (L2.takes_of rfl rfl rfl rfl) rfl (ma_cons (m_var (pv 0)) (ma_cons (m_var (pv 1)) ma_nil))))) ms_nil)
  (ms_cons (ms_if (mt_cmp op_eq snd_eq (m_var (pv 2)) m_str (by rfl)) (ms_one (ms_set (i := 3) sc_part_fault.nd rfl (by first | exact .inl rfl | exact .inr rfl) (m_call T.f_behind hr0 (L2.takes_of rfl rfl rfl rfl) rfl (ma_cons m_int (ma_cons (m_call T.f_test_fault hr0 (L2.takes_of rfl rfl rfl rfl) rfl (ma_cons (m_ix (ix_M (hu_of hr)) (snd_get T.gd) (m_var (pv 0)) m_int (by intro _ _; rfl)) (ma_cons (m_var (pv 1)) ma_nil))) ma_nil))))) (ms_one (ms_set (i := 3) sc_part_fault.nd rfl (by first | exact .inl rfl | exact .inr rfl) (m_call T.f_behind hr0 (L2.takes_of rfl rfl rfl rfl) rfl (ma_cons m_int (ma_cons (m_call T.f_part_fault hr0 (L2.takes_of rfl rfl rfl rfl) rfl (ma_cons (m_ix (ix_M (hu_of hr)) (snd_get T.gd) (m_var (pv 0)) m_int (by intro _ _; rfl)) (ma_cons (m_var (pv 1)) ma_nil))) ma_nil))))))
  (ms_cons (ms_if (mt_cmp op_notN snd_notN (m_var (pv 3)) m_non (by rfl)) (ms_one (ms_ret (m_var (pv 3)))) ms_nil)
  (ms_one (ms_ret (m_call T.f_behind hr0 (L2.takes_of rfl rfl rfl rfl) rfl (ma_cons m_int (ma_cons (m_call T.f_part_fault hr0 (L2.takes_of rfl rfl rfl rfl) rfl (ma_cons (m_ix (ix_M (hu_of hr)) (snd_get T.gd) (m_var (pv 0)) m_int (by intro _ _; rfl)) (ma_cons (m_var (pv 1)) ma_nil))) ma_nil))))))))))))))
abbrev N_surveyed : List Str := ["expression", "found", "waiting", "place", "part", "pairs", "tests", "word"]
theorem sc_surveyed : FnScope N_surveyed ["expression"] (defScope s_surveyed) := ⟨rfl, rfl, rfl, by decide +kernel, rfl, by decide +kernel, by decide +kernel⟩
theorem d_surveyed {P : Program} {w : World} {K : PySem.W.Frag} {mg : Str → Option Value} {base : Heap} {k : Nat} {C : Fn → Cal} (T : TT P w K mg base k C) : Bod P w K mg base (k + 1) N_surveyed ("surveyed" : Str) (defScope s_surveyed) (defBody s_surveyed) (b_surveyed C) := fun f cd A outer s H E hr => by
  have hr0 : Room k (dX P w K mg base N_surveyed ("surveyed" : Str) (defScope s_surveyed) f cd A outer s H E).A := hr.mono (Nat.le_succ k)
  exact (ms_cons (ms_set (i := 1) sc_surveyed.nd rfl (by first | exact .inl rfl | exact .inr rfl) (m_lst ma_nil))
  (ms_cons (ms_set (i := 2) sc_surveyed.nd rfl (by first | exact .inl rfl | exact .inr rfl) (m_lst (ma_cons (m_tup (ma_cons (m_tup ma_nil) (ma_cons (m_var (pv 0)) (ma_cons (m_tup ma_nil) (ma_cons (m_tup ma_nil) ma_nil))))) ma_nil)))
  (ms_cons (ms_while (L2.passes_of rfl) (mt_truth (m_var (pv 2))) (ms_cons (ms_asg (m_bm0 PySem.F.plainAttrs_list PySem.F.slot_list_pop PySem.F.type_list_pop mt_pop snd_pop (m_var (pv 2))) (mg_row rfl (mgs_cons (i := 3) sc_surveyed.nd rfl (by first | exact .inl rfl | exact .inr rfl) (mgs_cons (i := 4) sc_surveyed.nd rfl (by first | exact .inl rfl | exact .inr rfl) (mgs_cons (i := 5) sc_surveyed.nd rfl (by first | exact .inl rfl | exact .inr rfl) (mgs_cons (i := 6) sc_surveyed.nd rfl (by first | exact .inl rfl | exact .inr rfl) mgs_nil))))))
  (ms_cons (ms_expr (m_bm PySem.F.plainAttrs_list PySem.F.slot_list_append PySem.F.type_list_append mt_append snd_append (m_var (pv 1)) (ma_cons (m_tup (ma_cons (m_var (pv 3)) (ma_cons (m_var (pv 4)) (ma_cons (m_var (pv 5)) (ma_cons (m_var (pv 6)) ma_nil))))) ma_nil)))
  (ms_cons (ms_set (i := 7) sc_surveyed.nd rfl (by first | exact .inl rfl | exact .inr rfl) (m_ix (ix_M (hu_of hr)) (snd_get T.gd) (m_var (pv 4)) m_int (by intro _ _; rfl)))
  (ms_one (ms_if (mt_cmp op_eq snd_eq (m_var (pv 7)) m_str (by rfl)) (ms_one (ms_expr (m_bm PySem.F.plainAttrs_list PySem.F.slot_list_append PySem.F.type_list_append mt_append snd_append (m_var (pv 2)) (ma_cons (m_tup (ma_cons (m_op op_addM snd_add (m_var (pv 3)) (m_tup (ma_cons m_int ma_nil))) (ma_cons (m_ix (ix_M (hu_of hr)) (snd_get T.gd) (m_var (pv 4)) m_int (by intro _ _; rfl)) (ma_cons (m_op op_addM snd_add (m_var (pv 5)) (m_tup (ma_cons (m_tup (ma_cons (m_ix (ix_M (hu_of hr)) (snd_get T.gd) (m_var (pv 4)) m_int (by intro _ _; rfl)) (ma_cons (m_ix (ix_M (hu_of hr)) (snd_get T.gd) (m_var (pv 4)) m_int (by intro _ _; rfl)) ma_nil))) ma_nil))) (ma_cons (m_var (pv 6)) ma_nil))))) ma_nil)))) (ms_one (ms_if (mt_cmp op_eq snd_eq (m_var (pv 7)) m_str (by rfl)) (ms_one (ms_expr (m_bm PySem.F.plainAttrs_list PySem.F.slot_list_append PySem.F.type_list_append mt_append snd_append (m_var (pv 2)) (ma_cons (m_tup (ma_cons (m_op op_addM snd_add (m_var (pv 3)) (m_tup (ma_cons m_int ma_nil))) (ma_cons (m_ix (ix_M (hu_of hr)) (snd_get T.gd) (m_var (pv 4)) m_int (by intro _ _; rfl)) (ma_cons (m_var (pv 5)) (ma_cons (m_var (pv 6)) ma_nil))))) ma_nil)))) (ms_one (ms_if (mt_cmp op_eq snd_eq (m_var (pv 7)) m_str (by rfl)) (ms_one (ms_expr (m_bm PySem.F.plainAttrs_list PySem.F.slot_list_append PySem.F.type_list_append mt_append snd_append (m_var (pv 2)) (ma_cons (m_tup (ma_cons (m_op op_addM snd_add (m_var (pv 3)) (m_tup (ma_cons m_int ma_nil))) (ma_cons (m_ix (ix_M (hu_of hr)) (snd_get T.gd) (m_var (pv 4)) m_int (by intro _ _; rfl)) (ma_cons (m_var (pv 5)) (ma_cons (m_op op_addM snd_add (m_var (pv 6)) (m_tup (ma_cons (m_ix (ix_M (hu_of hr)) (snd_get T.gd) (m_var (pv 4)) m_int (by intro _ _; rfl)) ma_nil))) ma_nil))))) ma_nil)))) (ms_one (ms_if (mt_cmp op_eq snd_eq (m_var (pv 7)) m_str (by rfl)) (ms_cons (ms_expr (m_bm PySem.F.plainAttrs_list PySem.F.slot_list_append PySem.F.type_list_append mt_append snd_append (m_var (pv 2)) (ma_cons (m_tup (ma_cons (m_op op_addM snd_add (m_var (pv 3)) (m_tup (ma_cons m_int ma_nil))) (ma_cons (m_ix (ix_M (hu_of hr)) (snd_get T.gd) (m_var (pv 4)) m_int (by intro _ _; rfl)) (ma_cons (m_var (pv 5)) (ma_cons (m_var (pv 6)) ma_nil))))) ma_nil)))
  (ms_one (ms_expr (m_bm PySem.F.plainAttrs_list PySem.F.slot_list_append PySem.F.type_list_append mt_append snd_append (m_var (pv 2)) (ma_cons (m_tup (ma_cons (m_op op_addM snd_add (m_var (pv 3)) (m_tup (ma_cons m_int ma_nil))) (ma_cons (m_ix (ix_M (hu_of hr)) (snd_get T.gd) (m_var (pv 4)) m_int (by intro _ _; rfl)) (ma_cons (m_var (pv 5)) (ma_cons (m_var (pv 6)) ma_nil))))) ma_nil))))) ms_nil))))))))))))
  (ms_one (ms_ret (m_var (pv 1)))))))
abbrev N_depth_of : List Str := ["expression", "word"]
theorem sc_depth_of : FnScope N_depth_of ["expression"] (defScope s_depth_of) := ⟨rfl, rfl, rfl, by decide +kernel, rfl, by decide +kernel, by decide +kernel⟩
theorem d_depth_of {P : Program} {w : World} {K : PySem.W.Frag} {mg : Str → Option Value} {base : Heap} {k : Nat} {C : Fn → Cal} (T : TT P w K mg base k C) : Bod P w K mg base (k + 1) N_depth_of ("depth_of" : Str) (defScope s_depth_of) (defBody s_depth_of) (b_depth_of C) := fun f cd A outer s H E hr => by
  have hr0 : Room k (dX P w K mg base N_depth_of ("depth_of" : Str) (defScope s_depth_of) f cd A outer s H E).A := hr.mono (Nat.le_succ k)
  exact (ms_cons (ms_set (i := 1) sc_depth_of.nd rfl (by first | exact .inl rfl | exact .inr rfl) (m_ix (ix_M (hu_of hr)) (snd_get T.gd) (m_var (pv 0)) m_int (by intro _ _; rfl)))
  (ms_cons (ms_if (mw_pt (mw_or (mt_cmp op_eq snd_eq (m_var (pv 1)) m_str (by rfl)) (mw_or1 (mt_cmp op_eq snd_eq (m_var (pv 1)) m_str (by rfl))))) (ms_one (ms_ret m_int)) ms_nil)
  (ms_cons (ms_if (mt_cmp op_eq snd_eq (m_var (pv 1)) m_str (by rfl)) (ms_one (ms_ret (m_op op_addM snd_add m_int (m_callB snd_max (call_max2 rfl) rfl T.b_max boot_max (ma_cons (m_call T.f_depth_of hr0 (L2.takes_of rfl rfl rfl rfl) rfl (ma_cons (m_ix (ix_M (hu_of hr)) (snd_get T.gd) (m_var (pv 0)) m_int (by intro _ _; rfl)) ma_nil)) (ma_cons (m_call T.f_depth_of hr0 (L2.takes_of rfl rfl rfl rfl) rfl (ma_cons (m_ix (ix_M (hu_of hr)) (snd_get T.gd) (m_var (pv 0)) m_int (by intro _ _; rfl)) ma_nil)) ma_nil)))))) ms_nil)
  (ms_one (ms_ret (m_op op_addM snd_add m_int (m_call T.f_depth_of hr0 (L2.takes_of rfl rfl rfl rfl) rfl (ma_cons (m_ix (ix_M (hu_of hr)) (snd_get T.gd) (m_var (pv 0)) (m_op op_sub snd_sub (m_callB snd_lenS call_lenS rfl T.b_len boot_len (ma_cons (m_var (pv 0)) ma_nil)) m_int) (by intro _ _; rfl)) ma_nil))))))))
abbrev N_within_bounds : List Str := ["expression", "found", "rows", "kept", "place", "part", "pairs", "tests"]
theorem sc_within_bounds : FnScope N_within_bounds ["expression"] (defScope s_within_bounds) := ⟨rfl, rfl, rfl, by decide +kernel, rfl, by decide +kernel, by decide +kernel⟩
theorem d_within_bounds {P : Program} {w : World} {K : PySem.W.Frag} {mg : Str → Option Value} {base : Heap} {k : Nat} {C : Fn → Cal} (T : TT P w K mg base k C) : Bod P w K mg base (k + 1) N_within_bounds ("within_bounds" : Str) (defScope s_within_bounds) (defBody s_within_bounds) (b_within_bounds C) := fun f cd A outer s H E hr => by
  have hr0 : Room k (dX P w K mg base N_within_bounds ("within_bounds" : Str) (defScope s_within_bounds) f cd A outer s H E).A := hr.mono (Nat.le_succ k)
  exact (ms_cons (ms_if (mt_cmp op_gt snd_cmp (m_call T.f_depth_of hr0 (L2.takes_of rfl rfl rfl rfl) rfl (ma_cons (m_var (pv 0)) ma_nil)) (m_gv T.g_MOST_DEEP rfl) (by rfl)) (ms_one (ms_ret m_bl)) ms_nil)
  (ms_cons (ms_set (i := 1) sc_within_bounds.nd rfl (by first | exact .inl rfl | exact .inr rfl) (m_call T.f_surveyed hr0 (L2.takes_of rfl rfl rfl rfl) rfl (ma_cons (m_var (pv 0)) ma_nil)))
  (ms_cons (ms_if (mt_cmp op_gt snd_cmp (m_callB snd_lenS call_lenS rfl T.b_len boot_len (ma_cons (m_var (pv 1)) ma_nil)) (m_gv T.g_MOST_PARTS rfl) (by rfl)) (ms_one (ms_ret m_bl)) ms_nil)
  (ms_cons (ms_if (mt_cmp op_gt snd_cmp (m_callB snd_maxL (cr_max rfl) rfl T.b_max boot_max (ma_cons (m_lc (own := [(("place" : Str), 4), (("part" : Str), 5), (("pairs" : Str), 6), (("tests" : Str), 7)]) rfl sc_within_bounds.nd (mi_any (m_var (pv 1))) (blkOk_by (by rfl)) (fun _ _ _ _ _ => (mgo_row rfl (mgos_cons (i := 4) (by decide) sc_within_bounds.nd rfl (by first | exact .inl rfl | exact .inr rfl) (mgos_cons (i := 5) (by decide) sc_within_bounds.nd rfl (by first | exact .inl rfl | exact .inr rfl) (mgos_cons (i := 6) (by decide) sc_within_bounds.nd rfl (by first | exact .inl rfl | exact .inr rfl) (mgos_cons (i := 7) (by decide) sc_within_bounds.nd rfl (by first | exact .inl rfl | exact .inr rfl) mgos_nil)))))) (fun _ _ _ _ _ => mts_nil) (fun _ _ _ _ _ => (m_callB snd_lenS call_lenS rfl T.b_len boot_len (ma_cons (m_var (pv 6)) ma_nil)))) ma_nil)) (m_gv T.g_MOST_NAMES rfl) (by rfl)) (ms_one (ms_ret m_bl)) ms_nil)
  (ms_cons (ms_setSk (i := 2) (own := [(("place" : Str), 4), (("part" : Str), 5), (("pairs" : Str), 6), (("tests" : Str), 7)]) rfl sc_within_bounds.nd rfl rfl (sw_trueS rfl rfl rfl (by rfl)) (mi_any (m_var (pv 1))) (blkOk_by (by rfl)) (fun _ _ _ _ _ => (mgo_row rfl (mgos_cons (i := 4) (by decide) sc_within_bounds.nd rfl (by first | exact .inl rfl | exact .inr rfl) (mgos_cons (i := 5) (by decide) sc_within_bounds.nd rfl (by first | exact .inl rfl | exact .inr rfl) (mgos_cons (i := 6) (by decide) sc_within_bounds.nd rfl (by first | exact .inl rfl | exact .inr rfl) (mgos_cons (i := 7) (by decide) sc_within_bounds.nd rfl (by first | exact .inl rfl | exact .inr rfl) mgos_nil)))))) (fun _ _ _ _ _ => (mts_one (mt_cmp op_eq snd_eq (m_ix (ix_M (hu_of hr)) (snd_get T.gd) (m_var (pv 5)) m_int (by intro _ _; rfl)) m_str (by rfl)))) (fun _ _ _ _ _ => (m_ix (ix_M (hu_of hr)) (snd_get T.gd) (m_var (pv 5)) m_int (by intro _ _; rfl))))
  (ms_cons (ms_setSk (i := 3) (own := [(("place" : Str), 4), (("part" : Str), 5), (("pairs" : Str), 6), (("tests" : Str), 7)]) rfl sc_within_bounds.nd rfl rfl (sw_trueS rfl rfl rfl (by rfl)) (mi_any (m_var (pv 1))) (blkOk_by (by rfl)) (fun _ _ _ _ _ => (mgo_row rfl (mgos_cons (i := 4) (by decide) sc_within_bounds.nd rfl (by first | exact .inl rfl | exact .inr rfl) (mgos_cons (i := 5) (by decide) sc_within_bounds.nd rfl (by first | exact .inl rfl | exact .inr rfl) (mgos_cons (i := 6) (by decide) sc_within_bounds.nd rfl (by first | exact .inl rfl | exact .inr rfl) (mgos_cons (i := 7) (by decide) sc_within_bounds.nd rfl (by first | exact .inl rfl | exact .inr rfl) mgos_nil)))))) (fun _ _ _ _ _ => (mts_one (mt_cmp op_eq snd_eq (m_ix (ix_M (hu_of hr)) (snd_get T.gd) (m_var (pv 5)) m_int (by intro _ _; rfl)) m_str (by rfl)))) (fun _ _ _ _ _ => (m_ix (ix_M (hu_of hr)) (snd_get T.gd) (m_var (pv 5)) m_int (by intro _ _; rfl))))
  (ms_one (ms_ret (m_and (m_cmp op_le snd_cmp (m_callB snd_lenS call_lenS rfl T.b_len boot_len (ma_cons (m_var (pv 2)) ma_nil)) (m_gv T.g_MOST_NAMES rfl) (by rfl)) (m_one (m_cmp op_le snd_cmp (m_callB snd_lenS call_lenS rfl T.b_len boot_len (ma_cons (m_var (pv 3)) ma_nil)) (m_gv T.g_MOST_NAMES rfl) (by rfl))))))))))))
abbrev N_open_fault : List Str := ["thing", "fault"]
theorem sc_open_fault : FnScope N_open_fault ["thing"] (defScope s_open_fault) := ⟨rfl, rfl, rfl, by decide +kernel, rfl, by decide +kernel, by decide +kernel⟩
theorem d_open_fault {P : Program} {w : World} {K : PySem.W.Frag} {mg : Str → Option Value} {base : Heap} {k : Nat} {C : Fn → Cal} (T : TT P w K mg base k C) : Bod P w K mg base (k + 1) N_open_fault ("open_fault" : Str) (defScope s_open_fault) (defBody s_open_fault) (b_open_fault C) := fun f cd A outer s H E hr => by
  have hr0 : Room k (dX P w K mg base N_open_fault ("open_fault" : Str) (defScope s_open_fault) f cd A outer s H E).A := hr.mono (Nat.le_succ k)
  exact (ms_cons (ms_set (i := 1) sc_open_fault.nd rfl (by first | exact .inl rfl | exact .inr rfl) (m_call T.f_part_fault hr0 (L2.takes_of rfl rfl rfl rfl) rfl (ma_cons (m_var (pv 0)) (ma_cons (m_tup ma_nil) ma_nil))))
  (ms_cons (ms_if (mt_cmp op_notN snd_notN (m_var (pv 1)) m_non (by rfl)) (ms_one (ms_ret (m_var (pv 1)))) ms_nil)
  (ms_cons (ms_if (mt_not (mt_truth (m_call T.f_within_bounds hr0 (L2.takes_of rfl rfl rfl rfl) rfl (ma_cons (m_var (pv 0)) ma_nil)))) (ms_one (ms_ret (m_tup ma_nil))) ms_nil)
  (ms_one (ms_ret m_non)))))
abbrev N_is_open : List Str := ["thing"]
theorem sc_is_open : FnScope N_is_open ["thing"] (defScope s_is_open) := ⟨rfl, rfl, rfl, by decide +kernel, rfl, by decide +kernel, by decide +kernel⟩
theorem d_is_open {P : Program} {w : World} {K : PySem.W.Frag} {mg : Str → Option Value} {base : Heap} {k : Nat} {C : Fn → Cal} (T : TT P w K mg base k C) : Bod P w K mg base (k + 1) N_is_open ("is_open" : Str) (defScope s_is_open) (defBody s_is_open) (b_is_open C) := fun f cd A outer s H E hr => by
  have hr0 : Room k (dX P w K mg base N_is_open ("is_open" : Str) (defScope s_is_open) f cd A outer s H E).A := hr.mono (Nat.le_succ k)
  exact (ms_one (ms_ret (m_cmp op_isN snd_isN (m_call T.f_open_fault hr0 (L2.takes_of rfl rfl rfl rfl) rfl (ma_cons (m_var (pv 0)) ma_nil)) m_non (by rfl))))
abbrev N_opened : List Str := ["expression", "fault"]
theorem sc_opened : FnScope N_opened ["expression"] (defScope s_opened) := ⟨rfl, rfl, rfl, by decide +kernel, rfl, by decide +kernel, by decide +kernel⟩
theorem d_opened {P : Program} {w : World} {K : PySem.W.Frag} {mg : Str → Option Value} {base : Heap} {k : Nat} {C : Fn → Cal} (T : TT P w K mg base k C) : Bod P w K mg base (k + 1) N_opened ("opened" : Str) (defScope s_opened) (defBody s_opened) (b_opened C) := fun f cd A outer s H E hr => by
  have hr0 : Room k (dX P w K mg base N_opened ("opened" : Str) (defScope s_opened) f cd A outer s H E).A := hr.mono (Nat.le_succ k)
  exact (ms_cons (ms_set (i := 1) sc_opened.nd rfl (by first | exact .inl rfl | exact .inr rfl) (m_call T.f_open_fault hr0 (L2.takes_of rfl rfl rfl rfl) rfl (ma_cons (m_var (pv 0)) ma_nil)))
  (ms_cons (ms_if (mt_cmp op_notN snd_notN (m_var (pv 1)) m_non (by rfl)) (ms_one (ms_raiseN T.rx_NoOpen hr rfl (L2.takes_of rfl rfl rfl rfl) rfl (ma_cons (m_var (pv 1)) ma_nil))) ms_nil)
  (ms_one (ms_ret (m_call T.f_frozen hr0 (L2.takes_of rfl rfl rfl rfl) rfl (ma_cons (m_var (pv 0)) ma_nil))))))
abbrev N_row_names : List Str := ["expression", "place", "part", "pairs", "tests"]
theorem sc_row_names : FnScope N_row_names ["expression"] (defScope s_row_names) := ⟨rfl, rfl, rfl, by decide +kernel, rfl, by decide +kernel, by decide +kernel⟩
theorem d_row_names {P : Program} {w : World} {K : PySem.W.Frag} {mg : Str → Option Value} {base : Heap} {k : Nat} {C : Fn → Cal} (T : TT P w K mg base k C) : Bod P w K mg base (k + 1) N_row_names ("row_names" : Str) (defScope s_row_names) (defBody s_row_names) (b_row_names C) := fun f cd A outer s H E hr => by
  have hr0 : Room k (dX P w K mg base N_row_names ("row_names" : Str) (defScope s_row_names) f cd A outer s H E).A := hr.mono (Nat.le_succ k)
  exact (ms_one (ms_ret (m_sortK rfl (m_sk (own := [(("place" : Str), 1), (("part" : Str), 2), (("pairs" : Str), 3), (("tests" : Str), 4)]) rfl sc_row_names.nd (mi_any (m_call T.f_surveyed hr0 (L2.takes_of rfl rfl rfl rfl) rfl (ma_cons (m_call T.f_opened hr0 (L2.takes_of rfl rfl rfl rfl) rfl (ma_cons (m_var (pv 0)) ma_nil)) ma_nil))) (blkOk_by (by rfl)) (fun _ _ _ _ _ => (mgo_row rfl (mgos_cons (i := 1) (by decide) sc_row_names.nd rfl (by first | exact .inl rfl | exact .inr rfl) (mgos_cons (i := 2) (by decide) sc_row_names.nd rfl (by first | exact .inl rfl | exact .inr rfl) (mgos_cons (i := 3) (by decide) sc_row_names.nd rfl (by first | exact .inl rfl | exact .inr rfl) (mgos_cons (i := 4) (by decide) sc_row_names.nd rfl (by first | exact .inl rfl | exact .inr rfl) mgos_nil)))))) (fun _ _ _ _ _ => (mts_one (mt_cmp op_eq snd_eq (m_ix (ix_M (hu_of hr)) (snd_get T.gd) (m_var (pv 2)) m_int (by intro _ _; rfl)) m_str (by rfl)))) (fun _ _ _ _ _ => (m_ix (ix_M (hu_of hr)) (snd_get T.gd) (m_var (pv 2)) m_int (by intro _ _; rfl)))) rfl T.b_sorted)))
abbrev N_variables : List Str := ["expression", "place", "part", "pairs", "tests"]
theorem sc_variables : FnScope N_variables ["expression"] (defScope s_variables) := ⟨rfl, rfl, rfl, by decide +kernel, rfl, by decide +kernel, by decide +kernel⟩
theorem d_variables {P : Program} {w : World} {K : PySem.W.Frag} {mg : Str → Option Value} {base : Heap} {k : Nat} {C : Fn → Cal} (T : TT P w K mg base k C) : Bod P w K mg base (k + 1) N_variables ("variables" : Str) (defScope s_variables) (defBody s_variables) (b_variables C) := fun f cd A outer s H E hr => by
  have hr0 : Room k (dX P w K mg base N_variables ("variables" : Str) (defScope s_variables) f cd A outer s H E).A := hr.mono (Nat.le_succ k)
  exact (ms_one (ms_ret (m_sortK rfl (m_sk (own := [(("place" : Str), 1), (("part" : Str), 2), (("pairs" : Str), 3), (("tests" : Str), 4)]) rfl sc_variables.nd (mi_any (m_call T.f_surveyed hr0 (L2.takes_of rfl rfl rfl rfl) rfl (ma_cons (m_call T.f_opened hr0 (L2.takes_of rfl rfl rfl rfl) rfl (ma_cons (m_var (pv 0)) ma_nil)) ma_nil))) (blkOk_by (by rfl)) (fun _ _ _ _ _ => (mgo_row rfl (mgos_cons (i := 1) (by decide) sc_variables.nd rfl (by first | exact .inl rfl | exact .inr rfl) (mgos_cons (i := 2) (by decide) sc_variables.nd rfl (by first | exact .inl rfl | exact .inr rfl) (mgos_cons (i := 3) (by decide) sc_variables.nd rfl (by first | exact .inl rfl | exact .inr rfl) (mgos_cons (i := 4) (by decide) sc_variables.nd rfl (by first | exact .inl rfl | exact .inr rfl) mgos_nil)))))) (fun _ _ _ _ _ => (mts_one (mt_cmp op_eq snd_eq (m_ix (ix_M (hu_of hr)) (snd_get T.gd) (m_var (pv 2)) m_int (by intro _ _; rfl)) m_str (by rfl)))) (fun _ _ _ _ _ => (m_ix (ix_M (hu_of hr)) (snd_get T.gd) (m_var (pv 2)) m_int (by intro _ _; rfl)))) rfl T.b_sorted)))
abbrev N_most_names : List Str := ["expression", "place", "part", "pairs", "tests"]
theorem sc_most_names : FnScope N_most_names ["expression"] (defScope s_most_names) := ⟨rfl, rfl, rfl, by decide +kernel, rfl, by decide +kernel, by decide +kernel⟩
theorem d_most_names {P : Program} {w : World} {K : PySem.W.Frag} {mg : Str → Option Value} {base : Heap} {k : Nat} {C : Fn → Cal} (T : TT P w K mg base k C) : Bod P w K mg base (k + 1) N_most_names ("most_names" : Str) (defScope s_most_names) (defBody s_most_names) (b_most_names C) := fun f cd A outer s H E hr => by
  have hr0 : Room k (dX P w K mg base N_most_names ("most_names" : Str) (defScope s_most_names) f cd A outer s H E).A := hr.mono (Nat.le_succ k)
  exact (ms_one (ms_ret (m_callB snd_maxL (cr_max rfl) rfl T.b_max boot_max (ma_cons (m_lc (own := [(("place" : Str), 1), (("part" : Str), 2), (("pairs" : Str), 3), (("tests" : Str), 4)]) rfl sc_most_names.nd (mi_any (m_call T.f_surveyed hr0 (L2.takes_of rfl rfl rfl rfl) rfl (ma_cons (m_call T.f_opened hr0 (L2.takes_of rfl rfl rfl rfl) rfl (ma_cons (m_var (pv 0)) ma_nil)) ma_nil))) (blkOk_by (by rfl)) (fun _ _ _ _ _ => (mgo_row rfl (mgos_cons (i := 1) (by decide) sc_most_names.nd rfl (by first | exact .inl rfl | exact .inr rfl) (mgos_cons (i := 2) (by decide) sc_most_names.nd rfl (by first | exact .inl rfl | exact .inr rfl) (mgos_cons (i := 3) (by decide) sc_most_names.nd rfl (by first | exact .inl rfl | exact .inr rfl) (mgos_cons (i := 4) (by decide) sc_most_names.nd rfl (by first | exact .inl rfl | exact .inr rfl) mgos_nil)))))) (fun _ _ _ _ _ => mts_nil) (fun _ _ _ _ _ => (m_callB snd_lenS call_lenS rfl T.b_len boot_len (ma_cons (m_var (pv 3)) ma_nil)))) ma_nil))))
abbrev N_ways : List Str := ["expression", "place", "part", "pairs", "tests"]
theorem sc_ways : FnScope N_ways ["expression"] (defScope s_ways) := ⟨rfl, rfl, rfl, by decide +kernel, rfl, by decide +kernel, by decide +kernel⟩
theorem d_ways {P : Program} {w : World} {K : PySem.W.Frag} {mg : Str → Option Value} {base : Heap} {k : Nat} {C : Fn → Cal} (T : TT P w K mg base k C) : Bod P w K mg base (k + 1) N_ways ("ways" : Str) (defScope s_ways) (defBody s_ways) (b_ways C) := fun f cd A outer s H E hr => by
  have hr0 : Room k (dX P w K mg base N_ways ("ways" : Str) (defScope s_ways) f cd A outer s H E).A := hr.mono (Nat.le_succ k)
  exact (ms_one (ms_ret (m_callB snd_lenS call_lenS rfl T.b_len boot_len (ma_cons (m_lc (own := [(("place" : Str), 1), (("part" : Str), 2), (("pairs" : Str), 3), (("tests" : Str), 4)]) rfl sc_ways.nd (mi_any (m_call T.f_surveyed hr0 (L2.takes_of rfl rfl rfl rfl) rfl (ma_cons (m_call T.f_opened hr0 (L2.takes_of rfl rfl rfl rfl) rfl (ma_cons (m_var (pv 0)) ma_nil)) ma_nil))) (blkOk_by (by rfl)) (fun _ _ _ _ _ => (mgo_row rfl (mgos_cons (i := 1) (by decide) sc_ways.nd rfl (by first | exact .inl rfl | exact .inr rfl) (mgos_cons (i := 2) (by decide) sc_ways.nd rfl (by first | exact .inl rfl | exact .inr rfl) (mgos_cons (i := 3) (by decide) sc_ways.nd rfl (by first | exact .inl rfl | exact .inr rfl) (mgos_cons (i := 4) (by decide) sc_ways.nd rfl (by first | exact .inl rfl | exact .inr rfl) mgos_nil)))))) (fun _ _ _ _ _ => (mts_one (mt_cmp op_eq snd_eq (m_ix (ix_M (hu_of hr)) (snd_get T.gd) (m_var (pv 2)) m_int (by intro _ _; rfl)) m_str (by rfl)))) (fun _ _ _ _ _ => (m_var (pv 2)))) ma_nil))))
abbrev N_are_atoms : List Str := ["value", "atom"]
theorem sc_are_atoms : FnScope N_are_atoms ["value"] (defScope s_are_atoms) := ⟨rfl, rfl, rfl, by decide +kernel, rfl, by decide +kernel, by decide +kernel⟩
theorem d_are_atoms {P : Program} {w : World} {K : PySem.W.Frag} {mg : Str → Option Value} {base : Heap} {k : Nat} {C : Fn → Cal} (T : TT P w K mg base k C) : Bod P w K mg base (k + 1) N_are_atoms ("are_atoms" : Str) (defScope s_are_atoms) (defBody s_are_atoms) (b_are_atoms C) := fun f cd A outer s H E hr => by
  have hr0 : Room k (dX P w K mg base N_are_atoms ("are_atoms" : Str) (defScope s_are_atoms) f cd A outer s H E).A := hr.mono (Nat.le_succ k)
  exact (ms_cons (ms_if (mt_not (mt_truth (m_call T.f_is_row hr0 (L2.takes_of rfl rfl rfl rfl) rfl (ma_cons (m_var (pv 0)) ma_nil)))) (ms_one (ms_ret m_bl)) ms_nil)
  (ms_cons (ms_for (L2.passes_of rfl) rfl (mi_any (m_var (pv 0))) (mg_name (i := 1) sc_are_atoms.nd rfl (by first | exact .inl rfl | exact .inr rfl)) (ms_one (ms_if (mt_not (mt_truth (m_call T.f_is_atom hr0 (L2.takes_of rfl rfl rfl rfl) rfl (ma_cons (m_var (pv 1)) ma_nil)))) (ms_one (ms_ret m_bl)) ms_nil)))
  (ms_one (ms_ret m_bl))))
abbrev N_is_right_row : List Str := ["value"]
theorem sc_is_right_row : FnScope N_is_right_row ["value"] (defScope s_is_right_row) := ⟨rfl, rfl, rfl, by decide +kernel, rfl, by decide +kernel, by decide +kernel⟩
theorem d_is_right_row {P : Program} {w : World} {K : PySem.W.Frag} {mg : Str → Option Value} {base : Heap} {k : Nat} {C : Fn → Cal} (T : TT P w K mg base k C) : Bod P w K mg base (k + 1) N_is_right_row ("is_right_row" : Str) (defScope s_is_right_row) (defBody s_is_right_row) (b_is_right_row C) := fun f cd A outer s H E hr => by
  have hr0 : Room k (dX P w K mg base N_is_right_row ("is_right_row" : Str) (defScope s_is_right_row) f cd A outer s H E).A := hr.mono (Nat.le_succ k)
  exact (ms_one (ms_ret (m_and (m_call T.f_are_atoms hr0 (L2.takes_of rfl rfl rfl rfl) rfl (ma_cons (m_var (pv 0)) ma_nil)) (m_and (m_cmp op_le snd_cmp (m_callB snd_lenS call_lenS rfl T.b_len boot_len (ma_cons (m_var (pv 0)) ma_nil)) (m_gv T.g_MOST_ATOMS rfl) (by rfl)) (m_one (m_cmp op_eq snd_eq (m_callB snd_lenS call_lenS rfl T.b_len boot_len (ma_cons (m_siz (m_setN rfl (m_var (pv 0)) rfl T.b_set)) ma_nil)) (m_callB snd_lenS call_lenS rfl T.b_len boot_len (ma_cons (m_var (pv 0)) ma_nil)) (by rfl)))))))
abbrev N_rows_for : List Str := ["names", "environment", "rows", "name"]
theorem sc_rows_for : FnScope N_rows_for ["names", "environment"] (defScope s_rows_for) := ⟨rfl, rfl, rfl, by decide +kernel, rfl, by decide +kernel, by decide +kernel⟩
theorem d_rows_for {P : Program} {w : World} {K : PySem.W.Frag} {mg : Str → Option Value} {base : Heap} {k : Nat} {C : Fn → Cal} (T : TT P w K mg base k C) : Bod P w K mg base (k + 1) N_rows_for ("rows_for" : Str) (defScope s_rows_for) (defBody s_rows_for) (b_rows_for C) := fun f cd A outer s H E hr => by
  have hr0 : Room k (dX P w K mg base N_rows_for ("rows_for" : Str) (defScope s_rows_for) f cd A outer s H E).A := hr.mono (Nat.le_succ k)
  exact (ms_cons (ms_if (mt_not (mt_truth (m_callB snd_isi call_isiM rfl T.b_isinstance boot_isinstance (ma_cons (m_var (pv 1)) (ma_cons (m_ty rfl T.b_dict boot_dict) ma_nil))))) (ms_one (ms_raiseN T.rx_NoEnvironment hr rfl (L2.takes_of rfl rfl rfl rfl) rfl (ma_cons m_str ma_nil))) ms_nil)
  (ms_cons (ms_set (i := 2) sc_rows_for.nd rfl (by first | exact .inl rfl | exact .inr rfl) m_dict0)
  (ms_cons (ms_for (L2.passes_of rfl) rfl (mi_any (m_var (pv 0))) (mg_name (i := 3) sc_rows_for.nd rfl (by first | exact .inl rfl | exact .inr rfl)) (ms_cons (ms_if (mw_pt (mw_or (mt_cmp (op_notInM (hu_of hr)) (snd_notIn T.gd) (m_var (pv 3)) (m_var (pv 1)) (by rfl)) (mw_or1 (mt_not (mt_truth (m_call T.f_is_right_row hr0 (L2.takes_of rfl rfl rfl rfl) rfl (ma_cons (m_ix (ix_M (hu_of hr)) (snd_get T.gd) (m_var (pv 1)) (m_var (pv 3)) (by intro _ _; rfl)) ma_nil))))))) (ms_one (ms_raiseN T.rx_NoEnvironment hr rfl (L2.takes_of rfl rfl rfl rfl) rfl (ma_cons (m_var (pv 3)) ma_nil))) ms_nil)
  (ms_one (ms_setIx (m_var (pv 2)) (m_var (pv 3)) (m_callTy snd_list (call_listM rfl) rfl T.b_list boot_list (ma_cons (m_ix (ix_M (hu_of hr)) (snd_get T.gd) (m_var (pv 1)) (m_var (pv 3)) (by intro _ _; rfl)) ma_nil)) (set_M (hu_of hr)) snd_set))))
  (ms_one (ms_ret (m_var (pv 2)))))))
abbrev N_atom_of : List Str := ["item", "names"]
theorem sc_atom_of : FnScope N_atom_of ["item", "names"] (defScope s_atom_of) := ⟨rfl, rfl, rfl, by decide +kernel, rfl, by decide +kernel, by decide +kernel⟩
theorem d_atom_of {P : Program} {w : World} {K : PySem.W.Frag} {mg : Str → Option Value} {base : Heap} {k : Nat} {C : Fn → Cal} (T : TT P w K mg base k C) : Bod P w K mg base (k + 1) N_atom_of ("atom_of" : Str) (defScope s_atom_of) (defBody s_atom_of) (b_atom_of C) := fun f cd A outer s H E hr => by
  have hr0 : Room k (dX P w K mg base N_atom_of ("atom_of" : Str) (defScope s_atom_of) f cd A outer s H E).A := hr.mono (Nat.le_succ k)
  exact (ms_cons (ms_if (mt_cmp op_eq snd_eq (m_ix (ix_M (hu_of hr)) (snd_get T.gd) (m_var (pv 0)) m_int (by intro _ _; rfl)) m_str (by rfl)) (ms_one (ms_ret (m_ix (ix_M (hu_of hr)) (snd_get T.gd) (m_var (pv 1)) (m_ix (ix_M (hu_of hr)) (snd_get T.gd) (m_var (pv 0)) m_int (by intro _ _; rfl)) (by intro _ _; rfl)))) ms_nil)
  (ms_one (ms_ret (m_ix (ix_M (hu_of hr)) (snd_get T.gd) (m_var (pv 0)) m_int (by intro _ _; rfl)))))
abbrev N_passes : List Str := ["test", "names", "alike"]
theorem sc_passes : FnScope N_passes ["test", "names"] (defScope s_passes) := ⟨rfl, rfl, rfl, by decide +kernel, rfl, by decide +kernel, by decide +kernel⟩
theorem d_passes {P : Program} {w : World} {K : PySem.W.Frag} {mg : Str → Option Value} {base : Heap} {k : Nat} {C : Fn → Cal} (T : TT P w K mg base k C) : Bod P w K mg base (k + 1) N_passes ("passes" : Str) (defScope s_passes) (defBody s_passes) (b_passes C) := fun f cd A outer s H E hr => by
  have hr0 : Room k (dX P w K mg base N_passes ("passes" : Str) (defScope s_passes) f cd A outer s H E).A := hr.mono (Nat.le_succ k)
  exact (ms_cons (ms_set (i := 2) sc_passes.nd rfl (by first | exact .inl rfl | exact .inr rfl) (m_cmp op_eq snd_eq (m_call T.f_atom_of hr0 (L2.takes_of rfl rfl rfl rfl) rfl (ma_cons (m_ix (ix_M (hu_of hr)) (snd_get T.gd) (m_var (pv 0)) m_int (by intro _ _; rfl)) (ma_cons (m_var (pv 1)) ma_nil))) (m_call T.f_atom_of hr0 (L2.takes_of rfl rfl rfl rfl) rfl (ma_cons (m_ix (ix_M (hu_of hr)) (snd_get T.gd) (m_var (pv 0)) m_int (by intro _ _; rfl)) (ma_cons (m_var (pv 1)) ma_nil))) (by rfl)))
  (ms_cons (ms_if (mt_cmp op_eq snd_eq (m_ix (ix_M (hu_of hr)) (snd_get T.gd) (m_var (pv 0)) m_int (by intro _ _; rfl)) m_str (by rfl)) (ms_one (ms_ret (m_var (pv 2)))) ms_nil)
  (ms_one (ms_ret (m_not (m_var (pv 2)))))))
abbrev N_result_of : List Str := ["items", "names", "item"]
theorem sc_result_of : FnScope N_result_of ["items", "names"] (defScope s_result_of) := ⟨rfl, rfl, rfl, by decide +kernel, rfl, by decide +kernel, by decide +kernel⟩
theorem d_result_of {P : Program} {w : World} {K : PySem.W.Frag} {mg : Str → Option Value} {base : Heap} {k : Nat} {C : Fn → Cal} (T : TT P w K mg base k C) : Bod P w K mg base (k + 1) N_result_of ("result_of" : Str) (defScope s_result_of) (defBody s_result_of) (b_result_of C) := fun f cd A outer s H E hr => by
  have hr0 : Room k (dX P w K mg base N_result_of ("result_of" : Str) (defScope s_result_of) f cd A outer s H E).A := hr.mono (Nat.le_succ k)
  exact (ms_one (ms_ret (m_tup (ma_cons (m_callTy snd_tuple call_tuple_of rfl T.b_tuple boot_tuple (ma_cons (m_lc (own := [(("item" : Str), 2)]) rfl sc_result_of.nd (mi_any (m_var (pv 0))) (blkOk_by (by rfl)) (fun _ _ _ _ _ => (mgo_name (i := 2) (by decide) sc_result_of.nd rfl (by first | exact .inl rfl | exact .inr rfl))) (fun _ _ _ _ _ => mts_nil) (fun _ _ _ _ _ => (m_call T.f_atom_of hr0 takes0 rfl (ma_cons (m_var (pv 2)) (ma_cons (m_var (pv 1)) ma_nil))))) ma_nil)) (ma_cons (m_callTy snd_tuple call_tuple_of rfl T.b_tuple boot_tuple (ma_cons (m_srtI rfl (m_var (pv 1)) rfl T.b_sorted) ma_nil)) ma_nil)))))
abbrev N_lead : List Str := ["part", "rows", "names", "row", "lasting", "word", "atom", "more"]
theorem sc_lead : FnScope N_lead ["part", "rows", "names", "row", "lasting"] (defScope s_lead) := ⟨rfl, rfl, rfl, by decide +kernel, rfl, by decide +kernel, by decide +kernel⟩
theorem d_lead {P : Program} {w : World} {K : PySem.W.Frag} {mg : Str → Option Value} {base : Heap} {k : Nat} {C : Fn → Cal} (T : TT P w K mg base k C) : Bod P w K mg base (k + 1) N_lead ("lead" : Str) (defScope s_lead) (defBody s_lead) (b_lead C) := fun f cd A outer s H E hr => by
  have hr0 : Room k (dX P w K mg base N_lead ("lead" : Str) (defScope s_lead) f cd A outer s H E).A := hr.mono (Nat.le_succ k)
  exact (ms_cons (ms_set (i := 5) sc_lead.nd rfl (by first | exact .inl rfl | exact .inr rfl) (m_ix (ix_M (hu_of hr)) (snd_get T.gd) (m_var (pv 0)) m_int (by intro _ _; rfl)))
  (ms_one (ms_if (mt_cmp op_eq snd_eq (m_var (pv 5)) m_str (by rfl)) (ms_one (ms_expr (m_bm PySem.F.plainAttrs_list PySem.F.slot_list_append PySem.F.type_list_append mt_append snd_append (m_var (pv 3)) (ma_cons (m_call T.f_result_of hr0 (L2.takes_of rfl rfl rfl rfl) rfl (ma_cons (m_ix (ix_M (hu_of hr)) (snd_get T.gd) (m_var (pv 0)) m_int (by intro _ _; rfl)) (ma_cons (m_var (pv 2)) ma_nil))) ma_nil)))) (ms_one (ms_if (mt_cmp op_eq snd_eq (m_var (pv 5)) m_str (by rfl)) (ms_one (ms_for (L2.passes_of rfl) rfl (mi_any (m_ix (ix_M (hu_of hr)) (snd_get T.gd) (m_var (pv 1)) (m_ix (ix_M (hu_of hr)) (snd_get T.gd) (m_var (pv 0)) m_int (by intro _ _; rfl)) (by intro _ _; rfl))) (mg_name (i := 6) sc_lead.nd rfl (by first | exact .inl rfl | exact .inr rfl)) (ms_cons (ms_set (i := 7) sc_lead.nd rfl (by first | exact .inl rfl | exact .inr rfl) (m_callTy snd_dcopy call_dictC rfl T.b_dict boot_dict (ma_cons (m_var (pv 2)) ma_nil)))
  (ms_cons (ms_setIx (m_var (pv 7)) (m_ix (ix_M (hu_of hr)) (snd_get T.gd) (m_var (pv 0)) m_int (by intro _ _; rfl)) (m_var (pv 6)) (set_M (hu_of hr)) snd_set)
  (ms_one (ms_expr (m_call T.f_lead hr0 (L2.takes_of rfl rfl rfl rfl) rfl (ma_cons (m_ix (ix_M (hu_of hr)) (snd_get T.gd) (m_var (pv 0)) m_int (by intro _ _; rfl)) (ma_cons (m_var (pv 1)) (ma_cons (m_var (pv 7)) (ma_cons (m_var (pv 3)) (ma_cons (m_var (pv 4)) ma_nil)))))))))))) (ms_one (ms_if (mt_cmp op_eq snd_eq (m_var (pv 5)) m_str (by rfl)) (ms_cons (ms_expr (m_call T.f_lead hr0 (L2.takes_of rfl rfl rfl rfl) rfl (ma_cons (m_ix (ix_M (hu_of hr)) (snd_get T.gd) (m_var (pv 0)) m_int (by intro _ _; rfl)) (ma_cons (m_var (pv 1)) (ma_cons (m_var (pv 2)) (ma_cons (m_var (pv 3)) (ma_cons (m_var (pv 4)) ma_nil)))))))
  (ms_one (ms_expr (m_call T.f_lead hr0 (L2.takes_of rfl rfl rfl rfl) rfl (ma_cons (m_ix (ix_M (hu_of hr)) (snd_get T.gd) (m_var (pv 0)) m_int (by intro _ _; rfl)) (ma_cons (m_var (pv 1)) (ma_cons (m_var (pv 2)) (ma_cons (m_var (pv 3)) (ma_cons (m_var (pv 4)) ma_nil))))))))) (ms_one (ms_if (mt_cmp op_eq snd_eq (m_var (pv 5)) m_str (by rfl)) (ms_one (ms_if (mt_truth (m_call T.f_passes hr0 (L2.takes_of rfl rfl rfl rfl) rfl (ma_cons (m_ix (ix_M (hu_of hr)) (snd_get T.gd) (m_var (pv 0)) m_int (by intro _ _; rfl)) (ma_cons (m_var (pv 2)) ma_nil)))) (ms_one (ms_expr (m_call T.f_lead hr0 (L2.takes_of rfl rfl rfl rfl) rfl (ma_cons (m_ix (ix_M (hu_of hr)) (snd_get T.gd) (m_var (pv 0)) m_int (by intro _ _; rfl)) (ma_cons (m_var (pv 1)) (ma_cons (m_var (pv 2)) (ma_cons (m_var (pv 3)) (ma_cons (m_var (pv 4)) ma_nil)))))))) ms_nil)) (ms_one (ms_if (mt_cmp op_eq snd_eq (m_var (pv 5)) m_str (by rfl)) (ms_cons (ms_setIx (m_var (pv 4)) (m_ix (ix_M (hu_of hr)) (snd_get T.gd) (m_var (pv 0)) m_int (by intro _ _; rfl)) (m_call T.f_atom_of hr0 (L2.takes_of rfl rfl rfl rfl) rfl (ma_cons (m_ix (ix_M (hu_of hr)) (snd_get T.gd) (m_var (pv 0)) m_int (by intro _ _; rfl)) (ma_cons (m_var (pv 2)) ma_nil))) (set_M (hu_of hr)) snd_set)
  (ms_one (ms_expr (m_call T.f_lead hr0 (L2.takes_of rfl rfl rfl rfl) rfl (ma_cons (m_ix (ix_M (hu_of hr)) (snd_get T.gd) (m_var (pv 0)) m_int (by intro _ _; rfl)) (ma_cons (m_var (pv 1)) (ma_cons (m_var (pv 2)) (ma_cons (m_var (pv 3)) (ma_cons (m_var (pv 4)) ma_nil))))))))) ms_nil)))))))))))
abbrev N_led : List Str := ["expression", "environment", "plain", "rows", "row", "lasting"]
theorem sc_led : FnScope N_led ["expression", "environment"] (defScope s_led) := ⟨rfl, rfl, rfl, by decide +kernel, rfl, by decide +kernel, by decide +kernel⟩
theorem d_led {P : Program} {w : World} {K : PySem.W.Frag} {mg : Str → Option Value} {base : Heap} {k : Nat} {C : Fn → Cal} (T : TT P w K mg base k C) : Bod P w K mg base (k + 1) N_led ("led" : Str) (defScope s_led) (defBody s_led) (b_led C) := fun f cd A outer s H E hr => by
  have hr0 : Room k (dX P w K mg base N_led ("led" : Str) (defScope s_led) f cd A outer s H E).A := hr.mono (Nat.le_succ k)
  exact (ms_cons (ms_set (i := 2) sc_led.nd rfl (by first | exact .inl rfl | exact .inr rfl) (m_call T.f_opened hr0 (L2.takes_of rfl rfl rfl rfl) rfl (ma_cons (m_var (pv 0)) ma_nil)))
  (ms_cons (ms_set (i := 3) sc_led.nd rfl (by first | exact .inl rfl | exact .inr rfl) (m_call T.f_rows_for hr0 (L2.takes_of rfl rfl rfl rfl) rfl (ma_cons (m_call T.f_row_names hr0 (L2.takes_of rfl rfl rfl rfl) rfl (ma_cons (m_var (pv 2)) ma_nil)) (ma_cons (m_var (pv 1)) ma_nil))))
  (ms_cons (ms_set (i := 4) sc_led.nd rfl (by first | exact .inl rfl | exact .inr rfl) (m_lst ma_nil))
  (ms_cons (ms_set (i := 5) sc_led.nd rfl (by first | exact .inl rfl | exact .inr rfl) m_dict0)
  (ms_cons (ms_expr (m_call T.f_lead hr0 (L2.takes_of rfl rfl rfl rfl) rfl (ma_cons (m_var (pv 2)) (ma_cons (m_var (pv 3)) (ma_cons m_dict0 (ma_cons (m_var (pv 4)) (ma_cons (m_var (pv 5)) ma_nil)))))))
  (ms_one (ms_ret (m_tup (ma_cons (m_var (pv 4)) (ma_cons (m_var (pv 5)) ma_nil))))))))))
abbrev N_row_of : List Str := ["expression", "environment"]
theorem sc_row_of : FnScope N_row_of ["expression", "environment"] (defScope s_row_of) := ⟨rfl, rfl, rfl, by decide +kernel, rfl, by decide +kernel, by decide +kernel⟩
theorem d_row_of {P : Program} {w : World} {K : PySem.W.Frag} {mg : Str → Option Value} {base : Heap} {k : Nat} {C : Fn → Cal} (T : TT P w K mg base k C) : Bod P w K mg base (k + 1) N_row_of ("row_of" : Str) (defScope s_row_of) (defBody s_row_of) (b_row_of C) := fun f cd A outer s H E hr => by
  have hr0 : Room k (dX P w K mg base N_row_of ("row_of" : Str) (defScope s_row_of) f cd A outer s H E).A := hr.mono (Nat.le_succ k)
  exact (ms_one (ms_ret (m_ix (ix_M (hu_of hr)) (snd_get T.gd) (m_call T.f_led hr0 (L2.takes_of rfl rfl rfl rfl) rfl (ma_cons (m_var (pv 0)) (ma_cons (m_var (pv 1)) ma_nil))) m_int (by intro _ _; rfl))))
abbrev N__law_take : List Str := ["script", "pool", "many", "cell", "digit", "seed"]
theorem sc__law_take : FnScope N__law_take ["script", "pool", "many"] (defScope s__law_take) := ⟨rfl, rfl, rfl, by decide +kernel, rfl, by decide +kernel, by decide +kernel⟩
theorem d__law_take {P : Program} {w : World} {K : PySem.W.Frag} {mg : Str → Option Value} {base : Heap} {k : Nat} {C : Fn → Cal} (T : TT P w K mg base k C) : Bod P w K mg base (k + 1) N__law_take ("_law_take" : Str) (defScope s__law_take) (defBody s__law_take) (b__law_take C) := fun f cd A outer s H E hr => by
  have hr0 : Room k (dX P w K mg base N__law_take ("_law_take" : Str) (defScope s__law_take) f cd A outer s H E).A := hr.mono (Nat.le_succ k)
  exact (ms_cons (ms_setIx (m_var (pv 1)) m_int (m_op op_addM snd_add (m_ix (ix_M (hu_of hr)) (snd_get T.gd) (m_var (pv 1)) m_int (by intro _ _; rfl)) m_int) (set_M (hu_of hr)) snd_set)
  (ms_cons (ms_if (mw_pt (mw_and (mt_cmp op_eq snd_eq (m_ix (ix_M (hu_of hr)) (snd_get T.gd) (m_var (pv 1)) m_int (by intro _ _; rfl)) m_int (by rfl)) (mw_and1 (mt_cmp op_lt snd_cmp (m_ix (ix_M (hu_of hr)) (snd_get T.gd) (m_var (pv 1)) m_int (by intro _ _; rfl)) (m_callB snd_lenS call_lenS rfl T.b_len boot_len (ma_cons (m_var (pv 0)) ma_nil)) (by rfl))))) (ms_cons (ms_set (i := 3) sc__law_take.nd rfl (by first | exact .inl rfl | exact .inr rfl) (m_ix (ix_M (hu_of hr)) (snd_get T.gd) (m_var (pv 0)) (m_ix (ix_M (hu_of hr)) (snd_get T.gd) (m_var (pv 1)) m_int (by intro _ _; rfl)) (by intro _ _; rfl)))
  (ms_cons (ms_setIx (m_var (pv 1)) m_int (m_op op_addM snd_add (m_ix (ix_M (hu_of hr)) (snd_get T.gd) (m_var (pv 1)) m_int (by intro _ _; rfl)) m_int) (set_M (hu_of hr)) snd_set)
  (ms_cons (ms_if (mt_cmp op_lt snd_cmp (m_var (pv 3)) m_int (by rfl)) (ms_one (ms_set (i := 3) sc__law_take.nd rfl (by first | exact .inl rfl | exact .inr rfl) (m_op op_sub snd_sub (m_op op_sub snd_sub m_int (m_op op_mulM snd_mul m_int (m_var (pv 3)))) m_int))) ms_nil)
  (ms_one (ms_if (mt_cmp op_ge snd_cmp (m_var (pv 3)) (m_op op_pow snd_pow m_int m_int) (by rfl)) (ms_one (ms_setIx (m_var (pv 1)) m_int (m_var (pv 3)) (set_M (hu_of hr)) snd_set)) (ms_one (ms_setIx (m_var (pv 1)) m_int (m_op op_mod snd_mod (m_callTy snd_int call_int1 rfl T.b_int boot_int (ma_cons (m_op op_addM snd_add (m_op op_addM snd_add (m_op op_mulM snd_mul (m_ix (ix_M (hu_of hr)) (snd_get T.gd) (m_var (pv 1)) m_int (by intro _ _; rfl)) m_int) (m_var (pv 3))) m_int) ma_nil)) m_int) (set_M (hu_of hr)) snd_set))))))) ms_nil)
  (ms_cons (ms_if (mt_cmp op_gt snd_cmp (m_ix (ix_M (hu_of hr)) (snd_get T.gd) (m_var (pv 1)) m_int (by intro _ _; rfl)) m_int (by rfl)) (ms_cons (ms_set (i := 4) sc__law_take.nd rfl (by first | exact .inl rfl | exact .inr rfl) (m_op op_mod snd_mod (m_callTy snd_int call_int1 rfl T.b_int boot_int (ma_cons (m_ix (ix_M (hu_of hr)) (snd_get T.gd) (m_var (pv 1)) m_int (by intro _ _; rfl)) ma_nil)) (m_var (pv 2))))
  (ms_cons (ms_setIx (m_var (pv 1)) m_int (m_op op_fdiv snd_fdiv (m_ix (ix_M (hu_of hr)) (snd_get T.gd) (m_var (pv 1)) m_int (by intro _ _; rfl)) (m_var (pv 2))) (set_M (hu_of hr)) snd_set)
  (ms_one (ms_ret (m_var (pv 4)))))) ms_nil)
  (ms_cons (ms_set (i := 5) sc__law_take.nd rfl (by first | exact .inl rfl | exact .inr rfl) (m_op op_mod snd_mod (m_callTy snd_int call_int1 rfl T.b_int boot_int (ma_cons (m_op op_mulM snd_mul (m_callTy snd_int call_int1 rfl T.b_int boot_int (ma_cons (m_op op_addM snd_add (m_op op_addM snd_add (m_ix (ix_M (hu_of hr)) (snd_get T.gd) (m_var (pv 1)) m_int (by intro _ _; rfl)) (m_op op_mulM snd_mul m_int (m_ix (ix_M (hu_of hr)) (snd_get T.gd) (m_var (pv 1)) m_int (by intro _ _; rfl)))) m_int) ma_nil)) m_int) ma_nil)) m_int))
  (ms_cons (ms_set (i := 5) sc__law_take.nd rfl (by first | exact .inl rfl | exact .inr rfl) (m_op op_mod snd_mod (m_callTy snd_int call_int1 rfl T.b_int boot_int (ma_cons (m_op op_mulM snd_mul (m_var (pv 5)) (m_op op_addM snd_add (m_op op_fdiv snd_fdiv (m_var (pv 5)) m_int) m_int)) ma_nil)) m_int))
  (ms_cons (ms_set (i := 5) sc__law_take.nd rfl (by first | exact .inl rfl | exact .inr rfl) (m_op op_mod snd_mod (m_callTy snd_int call_int1 rfl T.b_int boot_int (ma_cons (m_op op_mulM snd_mul (m_var (pv 5)) (m_op op_addM snd_add (m_op op_fdiv snd_fdiv (m_var (pv 5)) m_int) m_int)) ma_nil)) m_int))
  (ms_one (ms_ret (m_op op_mod snd_mod (m_callTy snd_int call_int1 rfl T.b_int boot_int (ma_cons (m_op op_fdiv snd_fdiv (m_var (pv 5)) m_int) ma_nil)) (m_var (pv 2)))))))))))
abbrev N__law_wide : List Str := ["script", "pool", "many", "rows", "longer", "k"]
theorem sc__law_wide : FnScope N__law_wide ["script", "pool", "many"] (defScope s__law_wide) := ⟨rfl, rfl, rfl, by decide +kernel, rfl, by decide +kernel, by decide +kernel⟩
theorem d__law_wide {P : Program} {w : World} {K : PySem.W.Frag} {mg : Str → Option Value} {base : Heap} {k : Nat} {C : Fn → Cal} (T : TT P w K mg base k C) : Bod P w K mg base (k + 1) N__law_wide ("_law_wide" : Str) (defScope s__law_wide) (defBody s__law_wide) (b__law_wide C) := fun f cd A outer s H E hr => by
  have hr0 : Room k (dX P w K mg base N__law_wide ("_law_wide" : Str) (defScope s__law_wide) f cd A outer s H E).A := hr.mono (Nat.le_succ k)
  exact (ms_cons (ms_set (i := 3) sc__law_wide.nd rfl (by first | exact .inl rfl | exact .inr rfl) (m_lc (own := [(("k" : Str), 5)]) rfl sc__law_wide.nd (mi_range1 rfl T.b_range (m_op op_fdiv snd_fdiv (m_op op_addM snd_add (m_var (pv 2)) m_int) m_int)) (blkOk_by (by rfl)) (fun _ _ _ _ _ => (mgo_name (i := 5) (by decide) sc__law_wide.nd rfl (by first | exact .inl rfl | exact .inr rfl))) (fun _ _ _ _ _ => mts_nil) (fun _ _ _ _ _ => (m_tup (ma_cons m_str (ma_cons (m_tup ma_nil) ma_nil))))))
  (ms_cons (ms_while (L2.passes_of rfl) (mt_cmp op_gt snd_cmp (m_callB snd_lenS call_lenS rfl T.b_len boot_len (ma_cons (m_var (pv 3)) ma_nil)) m_int (by rfl)) (ms_cons (ms_setLc (i := 4) (own := [(("k" : Str), 5)]) rfl sc__law_wide.nd rfl rfl (sw_true rfl rfl rfl (by rfl)) (mi_range1 rfl T.b_range (m_op op_fdiv snd_fdiv (m_callB snd_lenS call_lenS rfl T.b_len boot_len (ma_cons (m_var (pv 3)) ma_nil)) m_int)) (blkOk_by (by rfl)) (fun _ _ _ _ _ => (mgo_name (i := 5) (by decide) sc__law_wide.nd rfl (by first | exact .inl rfl | exact .inr rfl))) (fun _ _ _ _ _ => mts_nil) (fun _ _ _ _ _ => (m_tup (ma_cons m_str (ma_cons (m_ix (ix_M (hu_of hr)) (snd_get T.gd) (m_var (pv 3)) (m_op op_mulM snd_mul m_int (m_var (pv 5))) (by intro _ _; rfl)) (ma_cons (m_ix (ix_M (hu_of hr)) (snd_get T.gd) (m_var (pv 3)) (m_op op_addM snd_add (m_op op_mulM snd_mul m_int (m_var (pv 5))) m_int) (by intro _ _; rfl)) ma_nil))))))
  (ms_one (ms_set (i := 3) sc__law_wide.nd rfl (by first | exact .inl rfl | exact .inr rfl) (m_op op_addM snd_add (m_var (pv 4)) (m_cut (m_var (pv 3)) (mo_some (m_op op_mulM snd_mul m_int (m_op op_fdiv snd_fdiv (m_callB snd_lenS call_lenS rfl T.b_len boot_len (ma_cons (m_var (pv 3)) ma_nil)) m_int))) mo_none))))))
  (ms_one (ms_ret (m_ix (ix_M (hu_of hr)) (snd_get T.gd) (m_var (pv 3)) m_int (by intro _ _; rfl))))))
abbrev N__law_even : List Str := ["script", "pool", "many", "test"]
theorem sc__law_even : FnScope N__law_even ["script", "pool", "many"] (defScope s__law_even) := ⟨rfl, rfl, rfl, by decide +kernel, rfl, by decide +kernel, by decide +kernel⟩
theorem d__law_even {P : Program} {w : World} {K : PySem.W.Frag} {mg : Str → Option Value} {base : Heap} {k : Nat} {C : Fn → Cal} (T : TT P w K mg base k C) : Bod P w K mg base (k + 1) N__law_even ("_law_even" : Str) (defScope s__law_even) (defBody s__law_even) (b__law_even C) := fun f cd A outer s H E hr => by
  have hr0 : Room k (dX P w K mg base N__law_even ("_law_even" : Str) (defScope s__law_even) f cd A outer s H E).A := hr.mono (Nat.le_succ k)
  exact (ms_cons (ms_if (mt_cmp op_eq snd_eq (m_op op_mod snd_mod (m_callTy snd_int call_int1 rfl T.b_int boot_int (ma_cons (m_var (pv 2)) ma_nil)) m_int) m_int (by rfl)) (ms_one (ms_ret (m_call T.f__law_wide hr0 (L2.takes_of rfl rfl rfl rfl) rfl (ma_cons (m_var (pv 0)) (ma_cons (m_var (pv 1)) (ma_cons (m_var (pv 2)) ma_nil)))))) ms_nil)
  (ms_cons (ms_set (i := 3) sc__law_even.nd rfl (by first | exact .inl rfl | exact .inr rfl) (m_tup (ma_cons (m_ix (ix_M (hu_of hr)) (snd_get T.gd) (m_lst (ma_cons m_str (ma_cons m_str ma_nil))) (m_call T.f__law_take hr0 (L2.takes_of rfl rfl rfl rfl) rfl (ma_cons (m_var (pv 0)) (ma_cons (m_var (pv 1)) (ma_cons m_int ma_nil)))) (by intro _ _; rfl)) (ma_cons (m_tup (ma_cons m_str (ma_cons m_int ma_nil))) (ma_cons (m_tup (ma_cons m_str (ma_cons m_str ma_nil))) ma_nil)))))
  (ms_one (ms_ret (m_tup (ma_cons m_str (ma_cons (m_var (pv 3)) (ma_cons (m_call T.f__law_wide hr0 (L2.takes_of rfl rfl rfl rfl) rfl (ma_cons (m_var (pv 0)) (ma_cons (m_var (pv 1)) (ma_cons (m_op op_sub snd_sub (m_var (pv 2)) m_int) ma_nil)))) ma_nil))))))))
abbrev N__law_deep : List Str := ["script", "pool", "many", "found", "k", "kind"]
theorem sc__law_deep : FnScope N__law_deep ["script", "pool", "many"] (defScope s__law_deep) := ⟨rfl, rfl, rfl, by decide +kernel, rfl, by decide +kernel, by decide +kernel⟩
theorem d__law_deep {P : Program} {w : World} {K : PySem.W.Frag} {mg : Str → Option Value} {base : Heap} {k : Nat} {C : Fn → Cal} (T : TT P w K mg base k C) : Bod P w K mg base (k + 1) N__law_deep ("_law_deep" : Str) (defScope s__law_deep) (defBody s__law_deep) (b__law_deep C) := fun f cd A outer s H E hr => by
  have hr0 : Room k (dX P w K mg base N__law_deep ("_law_deep" : Str) (defScope s__law_deep) f cd A outer s H E).A := hr.mono (Nat.le_succ k)
  exact (ms_cons (ms_set (i := 3) sc__law_deep.nd rfl (by first | exact .inl rfl | exact .inr rfl) (m_ix (ix_M (hu_of hr)) (snd_get T.gd) (m_lst (ma_cons (m_tup (ma_cons m_str ma_nil)) (ma_cons (m_tup (ma_cons m_str (ma_cons (m_tup (ma_cons (m_tup (ma_cons m_str (ma_cons m_int ma_nil))) ma_nil)) ma_nil))) ma_nil))) (m_call T.f__law_take hr0 (L2.takes_of rfl rfl rfl rfl) rfl (ma_cons (m_var (pv 0)) (ma_cons (m_var (pv 1)) (ma_cons m_int ma_nil)))) (by intro _ _; rfl)))
  (ms_cons (ms_for (L2.passes_of rfl) rfl (mi_range1 rfl T.b_range (m_op op_sub snd_sub (m_var (pv 2)) m_int)) (mg_name (i := 4) sc__law_deep.nd rfl (by first | exact .inl rfl | exact .inr rfl)) (ms_cons (ms_set (i := 5) sc__law_deep.nd rfl (by first | exact .inl rfl | exact .inr rfl) (m_call T.f__law_take hr0 (L2.takes_of rfl rfl rfl rfl) rfl (ma_cons (m_var (pv 0)) (ma_cons (m_var (pv 1)) (ma_cons m_int ma_nil)))))
  (ms_cons (ms_if (mt_cmp op_eq snd_eq (m_var (pv 5)) m_int (by rfl)) (ms_one (ms_set (i := 3) sc__law_deep.nd rfl (by first | exact .inl rfl | exact .inr rfl) (m_tup (ma_cons m_str (ma_cons (m_var (pv 3)) (ma_cons (m_tup (ma_cons m_str ma_nil)) ma_nil)))))) ms_nil)
  (ms_cons (ms_if (mt_cmp op_eq snd_eq (m_var (pv 5)) m_int (by rfl)) (ms_one (ms_set (i := 3) sc__law_deep.nd rfl (by first | exact .inl rfl | exact .inr rfl) (m_tup (ma_cons m_str (ma_cons (m_tup (ma_cons m_str (ma_cons (m_tup (ma_cons m_str (ma_cons m_int ma_nil))) (ma_cons (m_tup (ma_cons m_str (ma_cons m_int ma_nil))) ma_nil)))) (ma_cons (m_var (pv 3)) ma_nil)))))) ms_nil)
  (ms_one (ms_if (mt_cmp op_eq snd_eq (m_var (pv 5)) m_int (by rfl)) (ms_one (ms_set (i := 3) sc__law_deep.nd rfl (by first | exact .inl rfl | exact .inr rfl) (m_tup (ma_cons m_str (ma_cons m_str (ma_cons (m_tup (ma_cons m_str (ma_cons m_int ma_nil))) (ma_cons (m_var (pv 3)) ma_nil))))))) ms_nil))))))
  (ms_one (ms_ret (m_var (pv 3))))))
abbrev N__law_named : List Str := ["many", "rows", "letters", "found", "k", "name"]
theorem sc__law_named : FnScope N__law_named ["many", "rows"] (defScope s__law_named) := ⟨rfl, rfl, rfl, by decide +kernel, rfl, by decide +kernel, by decide +kernel⟩
theorem d__law_named {P : Program} {w : World} {K : PySem.W.Frag} {mg : Str → Option Value} {base : Heap} {k : Nat} {C : Fn → Cal} (T : TT P w K mg base k C) : Bod P w K mg base (k + 1) N__law_named ("_law_named" : Str) (defScope s__law_named) (defBody s__law_named) (b__law_named C) := fun f cd A outer s H E hr => by
  have hr0 : Room k (dX P w K mg base N__law_named ("_law_named" : Str) (defScope s__law_named) f cd A outer s H E).A := hr.mono (Nat.le_succ k)
  exact (ms_cons (ms_set (i := 2) sc__law_named.nd rfl (by first | exact .inl rfl | exact .inr rfl) (m_lst (ma_cons m_str (ma_cons m_str (ma_cons m_str (ma_cons m_str ma_nil))))))
  (ms_cons (ms_set (i := 3) sc__law_named.nd rfl (by first | exact .inl rfl | exact .inr rfl) (m_tup (ma_cons m_str (ma_cons (m_callTy snd_tuple call_tuple_of rfl T.b_tuple boot_tuple (ma_cons (m_lc (own := [(("name" : Str), 5)]) rfl sc__law_named.nd (mi_any (m_cut (m_var (pv 2)) mo_none (mo_some (m_callB snd_min (call_min2 rfl) rfl T.b_min boot_min (ma_cons (m_var (pv 0)) (ma_cons m_int ma_nil)))))) (blkOk_by (by rfl)) (fun _ _ _ _ _ => (mgo_name (i := 5) (by decide) sc__law_named.nd rfl (by first | exact .inl rfl | exact .inr rfl))) (fun _ _ _ _ _ => mts_nil) (fun _ _ _ _ _ => (m_tup (ma_cons m_str (ma_cons (m_var (pv 5)) ma_nil))))) ma_nil)) ma_nil))))
  (ms_cons (ms_for (L2.passes_of rfl) rfl (mi_range1 rfl T.b_range (m_var (pv 0))) (mg_name (i := 4) sc__law_named.nd rfl (by first | exact .inl rfl | exact .inr rfl)) (ms_one (ms_set (i := 3) sc__law_named.nd rfl (by first | exact .inl rfl | exact .inr rfl) (m_tup (ma_cons m_str (ma_cons (m_ix (ix_M (hu_of hr)) (snd_get T.gd) (m_var (pv 2)) (m_op op_sub snd_sub (m_op op_sub snd_sub (m_var (pv 0)) m_int) (m_var (pv 4))) (by intro _ _; rfl)) (ma_cons (m_ix (ix_M (hu_of hr)) (snd_get T.gd) (m_lst (ma_cons m_str (ma_cons m_str (ma_cons m_str (ma_cons m_str ma_nil))))) (m_op op_mod snd_mod (m_callTy snd_int call_int1 rfl T.b_int boot_int (ma_cons (m_var (pv 4)) ma_nil)) (m_var (pv 1))) (by intro _ _; rfl)) (ma_cons (m_var (pv 3)) ma_nil))))))))
  (ms_one (ms_ret (m_var (pv 3)))))))
abbrev N__law_rowed : List Str := ["many", "found", "k"]
theorem sc__law_rowed : FnScope N__law_rowed ["many"] (defScope s__law_rowed) := ⟨rfl, rfl, rfl, by decide +kernel, rfl, by decide +kernel, by decide +kernel⟩
theorem d__law_rowed {P : Program} {w : World} {K : PySem.W.Frag} {mg : Str → Option Value} {base : Heap} {k : Nat} {C : Fn → Cal} (T : TT P w K mg base k C) : Bod P w K mg base (k + 1) N__law_rowed ("_law_rowed" : Str) (defScope s__law_rowed) (defBody s__law_rowed) (b__law_rowed C) := fun f cd A outer s H E hr => by
  have hr0 : Room k (dX P w K mg base N__law_rowed ("_law_rowed" : Str) (defScope s__law_rowed) f cd A outer s H E).A := hr.mono (Nat.le_succ k)
  exact (ms_cons (ms_set (i := 1) sc__law_rowed.nd rfl (by first | exact .inl rfl | exact .inr rfl) (m_tup (ma_cons m_str ma_nil)))
  (ms_cons (ms_for (L2.passes_of rfl) rfl (mi_range1 rfl T.b_range (m_var (pv 0))) (mg_name (i := 2) sc__law_rowed.nd rfl (by first | exact .inl rfl | exact .inr rfl)) (ms_one (ms_set (i := 1) sc__law_rowed.nd rfl (by first | exact .inl rfl | exact .inr rfl) (m_tup (ma_cons m_str (ma_cons (m_tup (ma_cons m_str (ma_cons m_str (ma_cons (m_ix (ix_M (hu_of hr)) (snd_get T.gd) (m_lst (ma_cons m_str (ma_cons m_str (ma_cons m_str (ma_cons m_str ma_nil))))) (m_var (pv 2)) (by intro _ _; rfl)) (ma_cons (m_tup (ma_cons m_str (ma_cons (m_tup (ma_cons (m_tup (ma_cons m_str (ma_cons m_str ma_nil))) ma_nil)) ma_nil))) ma_nil))))) (ma_cons (m_var (pv 1)) ma_nil)))))))
  (ms_one (ms_ret (m_var (pv 1))))))
abbrev N__law_kept : List Str := ["many", "found", "k"]
theorem sc__law_kept : FnScope N__law_kept ["many"] (defScope s__law_kept) := ⟨rfl, rfl, rfl, by decide +kernel, rfl, by decide +kernel, by decide +kernel⟩
theorem d__law_kept {P : Program} {w : World} {K : PySem.W.Frag} {mg : Str → Option Value} {base : Heap} {k : Nat} {C : Fn → Cal} (T : TT P w K mg base k C) : Bod P w K mg base (k + 1) N__law_kept ("_law_kept" : Str) (defScope s__law_kept) (defBody s__law_kept) (b__law_kept C) := fun f cd A outer s H E hr => by
  have hr0 : Room k (dX P w K mg base N__law_kept ("_law_kept" : Str) (defScope s__law_kept) f cd A outer s H E).A := hr.mono (Nat.le_succ k)
  exact (ms_cons (ms_set (i := 1) sc__law_kept.nd rfl (by first | exact .inl rfl | exact .inr rfl) (m_tup (ma_cons m_str (ma_cons (m_tup ma_nil) ma_nil))))
  (ms_cons (ms_for (L2.passes_of rfl) rfl (mi_range1 rfl T.b_range (m_var (pv 0))) (mg_name (i := 2) sc__law_kept.nd rfl (by first | exact .inl rfl | exact .inr rfl)) (ms_one (ms_set (i := 1) sc__law_kept.nd rfl (by first | exact .inl rfl | exact .inr rfl) (m_tup (ma_cons m_str (ma_cons (m_ix (ix_M (hu_of hr)) (snd_get T.gd) (m_lst (ma_cons m_str (ma_cons m_str (ma_cons m_str (ma_cons m_str ma_nil))))) (m_var (pv 2)) (by intro _ _; rfl)) (ma_cons (m_tup (ma_cons m_str (ma_cons m_int ma_nil))) (ma_cons (m_var (pv 1)) ma_nil))))))))
  (ms_one (ms_ret (m_var (pv 1))))))
abbrev N__law_refused : List Str := ["thing", "told", "e"]
theorem sc__law_refused : FnScope N__law_refused ["thing"] (defScope s__law_refused) := ⟨rfl, rfl, rfl, by decide +kernel, rfl, by decide +kernel, by decide +kernel⟩
theorem d__law_refused {P : Program} {w : World} {K : PySem.W.Frag} {mg : Str → Option Value} {base : Heap} {k : Nat} {C : Fn → Cal} (T : TT P w K mg base k C) : Bod P w K mg base (k + 1) N__law_refused ("_law_refused" : Str) (defScope s__law_refused) (defBody s__law_refused) (b__law_refused C) := fun f cd A outer s H E hr => by
  have hr0 : Room k (dX P w K mg base N__law_refused ("_law_refused" : Str) (defScope s__law_refused) f cd A outer s H E).A := hr.mono (Nat.le_succ k)
  exact (ms_cons (ms_set (i := 1) sc__law_refused.nd rfl (by first | exact .inl rfl | exact .inr rfl) m_non)
  (ms_cons (ms_try (cl := [("NoOpen" : Str)]) rfl rfl (L2.takes_of rfl rfl rfl rfl) T.ex (fun W1 pn1 xe1 tk1 pa1 => have hr : Room (k + 1) (L2.Cx.tr (dX P w K mg base N__law_refused ("_law_refused" : Str) (defScope s__law_refused) f cd A outer s H E) pn1 xe1).A := hr; have hr0 : Room k (L2.Cx.tr (dX P w K mg base N__law_refused ("_law_refused" : Str) (defScope s__law_refused) f cd A outer s H E) pn1 xe1).A := hr0; (ms_one (ms_expr (m_call T.f_row_of hr0 tk1 rfl (ma_cons (m_var (pv 0)) (ma_cons (m_disp (mps_cons m_str (m_lst ma_nil) (mps_cons m_str (m_lst ma_nil) (mps_cons m_str (m_lst ma_nil) (mps_cons m_str (m_lst ma_nil) mps_nil))))) ma_nil)))))) (mh_as (i := 2) (n := ("e" : Str)) T.x_NoOpen rfl sc__law_refused.nd rfl rfl (mx_val (i := 2) (j := 1) sc__law_refused.nd rfl (by first | exact .inl rfl | exact .inr rfl) (xj_fld T.fl_spot (fun _ _ _ => pv 2))) mh_nil) rfl (by decide +kernel))
  (ms_one (ms_ret (m_var (pv 1))))))
abbrev N__law_says : List Str := ["value", "due"]
theorem sc__law_says : FnScope N__law_says ["value", "due"] (defScope s__law_says) := ⟨rfl, rfl, rfl, by decide +kernel, rfl, by decide +kernel, by decide +kernel⟩
theorem d__law_says {P : Program} {w : World} {K : PySem.W.Frag} {mg : Str → Option Value} {base : Heap} {k : Nat} {C : Fn → Cal} (T : TT P w K mg base k C) : Bod P w K mg base (k + 1) N__law_says ("_law_says" : Str) (defScope s__law_says) (defBody s__law_says) (b__law_says C) := fun f cd A outer s H E hr => by
  have hr0 : Room k (dX P w K mg base N__law_says ("_law_says" : Str) (defScope s__law_says) f cd A outer s H E).A := hr.mono (Nat.le_succ k)
  exact (ms_one (ms_ret (m_and (m_callB snd_isi call_isiM rfl T.b_isinstance boot_isinstance (ma_cons (m_var (pv 0)) (ma_cons (m_ty rfl T.b_bool boot_bool) ma_nil))) (m_one (m_cmp op_eq snd_eq (m_var (pv 0)) (m_var (pv 1)) (by rfl))))))
abbrev N__law_told : List Str := ["thing", "is_right", "due"]
theorem sc__law_told : FnScope N__law_told ["thing", "is_right"] (defScope s__law_told) := ⟨rfl, rfl, rfl, by decide +kernel, rfl, by decide +kernel, by decide +kernel⟩
theorem d__law_told {P : Program} {w : World} {K : PySem.W.Frag} {mg : Str → Option Value} {base : Heap} {k : Nat} {C : Fn → Cal} (T : TT P w K mg base k C) : Bod P w K mg base (k + 1) N__law_told ("_law_told" : Str) (defScope s__law_told) (defBody s__law_told) (b__law_told C) := fun f cd A outer s H E hr => by
  have hr0 : Room k (dX P w K mg base N__law_told ("_law_told" : Str) (defScope s__law_told) f cd A outer s H E).A := hr.mono (Nat.le_succ k)
  exact (ms_cons (ms_set (i := 2) sc__law_told.nd rfl (by first | exact .inl rfl | exact .inr rfl) (m_if (mt_truth (m_var (pv 1))) m_non (m_tup ma_nil)))
  (ms_one (ms_ret (m_and (m_cmp (op_eqD hr.units) snd_eqD (m_call T.f_open_fault hr0 (L2.takes_of rfl rfl rfl rfl) rfl (ma_cons (m_var (pv 0)) ma_nil)) (m_var (pv 2)) (by rfl)) (m_and (m_call T.f__law_says hr0 (L2.takes_of rfl rfl rfl rfl) rfl (ma_cons (m_call T.f_is_open hr0 (L2.takes_of rfl rfl rfl rfl) rfl (ma_cons (m_var (pv 0)) ma_nil)) (ma_cons (m_var (pv 1)) ma_nil))) (m_one (m_cmp (op_eqD hr.units) snd_eqD (m_call T.f__law_refused hr0 (L2.takes_of rfl rfl rfl rfl) rfl (ma_cons (m_var (pv 0)) ma_nil)) (m_var (pv 2)) (by rfl))))))))
abbrev N_law : List Str := ["script", "pool", "more", "is_right", "made", "thing", "wrong", "told"]
theorem sc_law : FnScope N_law ["script"] (defScope s_law) := ⟨rfl, rfl, rfl, by decide +kernel, rfl, by decide +kernel, by decide +kernel⟩
theorem d_law {P : Program} {w : World} {K : PySem.W.Frag} {mg : Str → Option Value} {base : Heap} {k : Nat} {C : Fn → Cal} (T : TT P w K mg base k C) : Bod P w K mg base (k + 1) N_law ("law" : Str) (defScope s_law) (defBody s_law) (b_law C) := fun f cd A outer s H E hr => by
  have hr0 : Room k (dX P w K mg base N_law ("law" : Str) (defScope s_law) f cd A outer s H E).A := hr.mono (Nat.le_succ k)
  exact (ms_cons (ms_set (i := 1) sc_law.nd rfl (by first | exact .inl rfl | exact .inr rfl) (m_lst (ma_cons m_int (ma_cons m_int (ma_cons m_int (ma_cons m_int ma_nil))))))
  (ms_cons (ms_for (L2.passes_of rfl) rfl (mi_range1 rfl T.b_range m_int) (mg_name (i := 2) sc_law.nd rfl (by first | exact .inl rfl | exact .inr rfl)) (ms_cons (ms_set (i := 3) sc_law.nd rfl (by first | exact .inl rfl | exact .inr rfl) (m_cmp op_eq snd_eq (m_var (pv 2)) m_int (by rfl)))
  (ms_cons (ms_set (i := 4) sc_law.nd rfl (by first | exact .inl rfl | exact .inr rfl) (m_lst (ma_cons (m_call T.f__law_even hr0 (L2.takes_of rfl rfl rfl rfl) rfl (ma_cons (m_var (pv 0)) (ma_cons (m_var (pv 1)) (ma_cons (m_op op_addM snd_add m_int (m_var (pv 2))) ma_nil)))) (ma_cons (m_call T.f__law_deep hr0 (L2.takes_of rfl rfl rfl rfl) rfl (ma_cons (m_var (pv 0)) (ma_cons (m_var (pv 1)) (ma_cons (m_op op_addM snd_add m_int (m_var (pv 2))) ma_nil)))) (ma_cons (m_call T.f__law_named hr0 (L2.takes_of rfl rfl rfl rfl) rfl (ma_cons (m_op op_addM snd_add m_int (m_var (pv 2))) (ma_cons m_int ma_nil))) ma_nil)))))
  (ms_cons (ms_set (i := 4) sc_law.nd rfl (by first | exact .inl rfl | exact .inr rfl) (m_op op_addM snd_add (m_var (pv 4)) (m_lst (ma_cons (m_call T.f__law_rowed hr0 (L2.takes_of rfl rfl rfl rfl) rfl (ma_cons (m_op op_addM snd_add m_int (m_var (pv 2))) ma_nil)) (ma_cons (m_call T.f__law_kept hr0 (L2.takes_of rfl rfl rfl rfl) rfl (ma_cons (m_op op_addM snd_add m_int (m_var (pv 2))) ma_nil)) ma_nil)))))
  (ms_cons (ms_if (mt_cmp (op_neD hr.units) snd_neD (m_lc (own := [(("thing" : Str), 5)]) rfl sc_law.nd (mi_any (m_var (pv 4))) (blkOk_by (by rfl)) (fun _ _ _ _ _ => (mgo_name (i := 5) (by decide) sc_law.nd rfl (by first | exact .inl rfl | exact .inr rfl))) (fun _ _ _ _ _ => (mts_one (mt_not (mt_truth (m_call T.f__law_told hr0 takes0 rfl (ma_cons (m_var (pv 5)) (ma_cons (m_var (pv 3)) ma_nil))))))) (fun _ _ _ _ _ => (m_var (pv 5)))) (m_lst ma_nil) (by rfl)) (ms_one (ms_ret m_bl)) ms_nil)
  (ms_cons (ms_set (i := 5) sc_law.nd rfl (by first | exact .inl rfl | exact .inr rfl) (m_ix (ix_M (hu_of hr)) (snd_get T.gd) (m_var (pv 4)) (m_op op_addM snd_add m_int (m_call T.f__law_take hr0 (L2.takes_of rfl rfl rfl rfl) rfl (ma_cons (m_var (pv 0)) (ma_cons (m_var (pv 1)) (ma_cons m_int ma_nil))))) (by intro _ _; rfl)))
  (ms_cons (ms_if (mt_not (mt_truth (m_call T.f__law_told hr0 (L2.takes_of rfl rfl rfl rfl) rfl (ma_cons (m_tup (ma_cons m_str (ma_cons (m_tup (ma_cons m_str (ma_cons (m_tup ma_nil) ma_nil))) (ma_cons (m_var (pv 5)) ma_nil)))) (ma_cons (m_var (pv 3)) ma_nil))))) (ms_one (ms_ret m_bl)) ms_nil)
  (ms_cons (ms_set (i := 6) sc_law.nd rfl (by first | exact .inl rfl | exact .inr rfl) (m_tup (ma_cons m_str (ma_cons (m_var (pv 5)) (ma_cons (m_tup (ma_cons m_str (ma_cons (m_tup (ma_cons (m_tup (ma_cons m_str (ma_cons m_str ma_nil))) ma_nil)) ma_nil))) ma_nil)))))
  (ms_cons (ms_if (mw_pt (mw_or (mt_cmp (op_neD hr.units) snd_neD (m_call T.f_open_fault hr0 (L2.takes_of rfl rfl rfl rfl) rfl (ma_cons (m_var (pv 6)) ma_nil)) (m_tup (ma_cons m_int (ma_cons m_int (ma_cons m_int ma_nil)))) (by rfl)) (mw_or (mt_cmp op_notBl snd_notB (m_call T.f_is_open hr0 (L2.takes_of rfl rfl rfl rfl) rfl (ma_cons (m_var (pv 6)) ma_nil)) m_bl (by rfl)) (mw_or1 (mt_cmp (op_neD hr.units) snd_neD (m_call T.f__law_refused hr0 (L2.takes_of rfl rfl rfl rfl) rfl (ma_cons (m_var (pv 6)) ma_nil)) (m_tup (ma_cons m_int (ma_cons m_int (ma_cons m_int ma_nil)))) (by rfl)))))) (ms_one (ms_ret m_bl)) ms_nil)
  (ms_cons (ms_if (mt_not (mt_truth (m_var (pv 3)))) (ms_one ms_cnt) ms_nil)
  (ms_cons (ms_if (mt_cmp op_ne snd_ne (m_call T.f_ways hr0 (L2.takes_of rfl rfl rfl rfl) rfl (ma_cons (m_ix (ix_M (hu_of hr)) (snd_get T.gd) (m_var (pv 4)) m_int (by intro _ _; rfl)) ma_nil)) m_int (by rfl)) (ms_one (ms_ret m_bl)) ms_nil)
  (ms_cons (ms_set (i := 7) sc_law.nd rfl (by first | exact .inl rfl | exact .inr rfl) (m_lst (ma_cons (m_call T.f_most_names hr0 (L2.takes_of rfl rfl rfl rfl) rfl (ma_cons (m_ix (ix_M (hu_of hr)) (snd_get T.gd) (m_var (pv 4)) m_int (by intro _ _; rfl)) ma_nil)) (ma_cons (m_call T.f_row_names hr0 (L2.takes_of rfl rfl rfl rfl) rfl (ma_cons (m_ix (ix_M (hu_of hr)) (snd_get T.gd) (m_var (pv 4)) m_int (by intro _ _; rfl)) ma_nil)) (ma_cons (m_call T.f_row_names hr0 (L2.takes_of rfl rfl rfl rfl) rfl (ma_cons (m_ix (ix_M (hu_of hr)) (snd_get T.gd) (m_var (pv 4)) m_int (by intro _ _; rfl)) ma_nil)) (ma_cons (m_call T.f_variables hr0 (L2.takes_of rfl rfl rfl rfl) rfl (ma_cons (m_ix (ix_M (hu_of hr)) (snd_get T.gd) (m_var (pv 4)) m_int (by intro _ _; rfl)) ma_nil)) ma_nil))))))
  (ms_one (ms_if (mt_cmp (op_neD hr.units) snd_neD (m_var (pv 7)) (m_lst (ma_cons m_int (ma_cons (m_lst (ma_cons m_str (ma_cons m_str (ma_cons m_str ma_nil)))) (ma_cons (m_lst (ma_cons m_str (ma_cons m_str (ma_cons m_str ma_nil)))) (ma_cons (m_lst (ma_cons m_str (ma_cons m_str (ma_cons m_str ma_nil)))) ma_nil))))) (by rfl)) (ms_one (ms_ret m_bl)) ms_nil))))))))))))))
  (ms_cons (ms_set (i := 5) sc_law.nd rfl (by first | exact .inl rfl | exact .inr rfl) (m_call T.f__law_even hr0 (L2.takes_of rfl rfl rfl rfl) rfl (ma_cons (m_var (pv 0)) (ma_cons (m_var (pv 1)) (ma_cons (m_op op_addM snd_add m_int (m_call T.f__law_take hr0 (L2.takes_of rfl rfl rfl rfl) rfl (ma_cons (m_var (pv 0)) (ma_cons (m_var (pv 1)) (ma_cons m_int ma_nil))))) ma_nil)))))
  (ms_one (ms_ret (m_call T.f__law_told hr0 (L2.takes_of rfl rfl rfl rfl) rfl (ma_cons (m_var (pv 5)) (ma_cons m_bl ma_nil))))))))
end Sh

set_option Elab.async false
set_option linter.all false
set_option maxRecDepth 100000
set_option maxHeartbeats 0
/-! the facts of the top, printed by mk.py -/
namespace Sh
open PySem PySem.Spec PyProof.Rows L2
theorem bi_is_row : BI ("is_row" : Str) ("is_row" : Str) s_is_row ["value"] := fun _ _ _ _ _ _ us hl => match us, hl with | [_], _ => rfl
theorem bi_is_name : BI ("is_name" : Str) ("is_name" : Str) s_is_name ["value"] := fun _ _ _ _ _ _ us hl => match us, hl with | [_], _ => rfl
theorem bi_frozen : BI ("frozen" : Str) ("frozen" : Str) s_frozen ["value"] := fun _ _ _ _ _ _ us hl => match us, hl with | [_], _ => rfl
theorem bi_is_whole : BI ("is_whole" : Str) ("is_whole" : Str) s_is_whole ["value"] := fun _ _ _ _ _ _ us hl => match us, hl with | [_], _ => rfl
theorem bi_is_atom : BI ("is_atom" : Str) ("is_atom" : Str) s_is_atom ["value"] := fun _ _ _ _ _ _ us hl => match us, hl with | [_], _ => rfl
theorem bi_is_item : BI ("is_item" : Str) ("is_item" : Str) s_is_item ["value", "given"] := fun _ _ _ _ _ _ us hl => match us, hl with | [_, _], _ => rfl
theorem bi_items_fault : BI ("items_fault" : Str) ("items_fault" : Str) s_items_fault ["items", "given"] := fun _ _ _ _ _ _ us hl => match us, hl with | [_, _], _ => rfl
theorem bi_test_fault : BI ("test_fault" : Str) ("test_fault" : Str) s_test_fault ["test", "given"] := fun _ _ _ _ _ _ us hl => match us, hl with | [_, _], _ => rfl
theorem bi_behind : BI ("behind" : Str) ("behind" : Str) s_behind ["index", "fault"] := fun _ _ _ _ _ _ us hl => match us, hl with | [_, _], _ => rfl
theorem bi_each_fault : BI ("each_fault" : Str) ("each_fault" : Str) s_each_fault ["part", "given"] := fun _ _ _ _ _ _ us hl => match us, hl with | [_, _], _ => rfl
theorem bi_last_fault : BI ("last_fault" : Str) ("last_fault" : Str) s_last_fault ["part", "given"] := fun _ _ _ _ _ _ us hl => match us, hl with | [_, _], _ => rfl
theorem bi_part_fault : BI ("part_fault" : Str) ("part_fault" : Str) s_part_fault ["part", "given"] := fun _ _ _ _ _ _ us hl => match us, hl with | [_, _], _ => rfl
theorem bi_surveyed : BI ("surveyed" : Str) ("surveyed" : Str) s_surveyed ["expression"] := fun _ _ _ _ _ _ us hl => match us, hl with | [_], _ => rfl
theorem bi_depth_of : BI ("depth_of" : Str) ("depth_of" : Str) s_depth_of ["expression"] := fun _ _ _ _ _ _ us hl => match us, hl with | [_], _ => rfl
theorem bi_within_bounds : BI ("within_bounds" : Str) ("within_bounds" : Str) s_within_bounds ["expression"] := fun _ _ _ _ _ _ us hl => match us, hl with | [_], _ => rfl
theorem bi_open_fault : BI ("open_fault" : Str) ("open_fault" : Str) s_open_fault ["thing"] := fun _ _ _ _ _ _ us hl => match us, hl with | [_], _ => rfl
theorem bi_is_open : BI ("is_open" : Str) ("is_open" : Str) s_is_open ["thing"] := fun _ _ _ _ _ _ us hl => match us, hl with | [_], _ => rfl
theorem bi_opened : BI ("opened" : Str) ("opened" : Str) s_opened ["expression"] := fun _ _ _ _ _ _ us hl => match us, hl with | [_], _ => rfl
theorem bi_row_names : BI ("row_names" : Str) ("row_names" : Str) s_row_names ["expression"] := fun _ _ _ _ _ _ us hl => match us, hl with | [_], _ => rfl
theorem bi_variables : BI ("variables" : Str) ("variables" : Str) s_variables ["expression"] := fun _ _ _ _ _ _ us hl => match us, hl with | [_], _ => rfl
theorem bi_most_names : BI ("most_names" : Str) ("most_names" : Str) s_most_names ["expression"] := fun _ _ _ _ _ _ us hl => match us, hl with | [_], _ => rfl
theorem bi_ways : BI ("ways" : Str) ("ways" : Str) s_ways ["expression"] := fun _ _ _ _ _ _ us hl => match us, hl with | [_], _ => rfl
theorem bi_are_atoms : BI ("are_atoms" : Str) ("are_atoms" : Str) s_are_atoms ["value"] := fun _ _ _ _ _ _ us hl => match us, hl with | [_], _ => rfl
theorem bi_is_right_row : BI ("is_right_row" : Str) ("is_right_row" : Str) s_is_right_row ["value"] := fun _ _ _ _ _ _ us hl => match us, hl with | [_], _ => rfl
theorem bi_rows_for : BI ("rows_for" : Str) ("rows_for" : Str) s_rows_for ["names", "environment"] := fun _ _ _ _ _ _ us hl => match us, hl with | [_, _], _ => rfl
theorem bi_atom_of : BI ("atom_of" : Str) ("atom_of" : Str) s_atom_of ["item", "names"] := fun _ _ _ _ _ _ us hl => match us, hl with | [_, _], _ => rfl
theorem bi_passes : BI ("passes" : Str) ("passes" : Str) s_passes ["test", "names"] := fun _ _ _ _ _ _ us hl => match us, hl with | [_, _], _ => rfl
theorem bi_result_of : BI ("result_of" : Str) ("result_of" : Str) s_result_of ["items", "names"] := fun _ _ _ _ _ _ us hl => match us, hl with | [_, _], _ => rfl
theorem bi_lead : BI ("lead" : Str) ("lead" : Str) s_lead ["part", "rows", "names", "row", "lasting"] := fun _ _ _ _ _ _ us hl => match us, hl with | [_, _, _, _, _], _ => rfl
theorem bi_led : BI ("led" : Str) ("led" : Str) s_led ["expression", "environment"] := fun _ _ _ _ _ _ us hl => match us, hl with | [_, _], _ => rfl
theorem bi_row_of : BI ("row_of" : Str) ("row_of" : Str) s_row_of ["expression", "environment"] := fun _ _ _ _ _ _ us hl => match us, hl with | [_, _], _ => rfl
theorem bi__law_take : BI ("_law_take" : Str) ("_law_take" : Str) s__law_take ["script", "pool", "many"] := fun _ _ _ _ _ _ us hl => match us, hl with | [_, _, _], _ => rfl
theorem bi__law_wide : BI ("_law_wide" : Str) ("_law_wide" : Str) s__law_wide ["script", "pool", "many"] := fun _ _ _ _ _ _ us hl => match us, hl with | [_, _, _], _ => rfl
theorem bi__law_even : BI ("_law_even" : Str) ("_law_even" : Str) s__law_even ["script", "pool", "many"] := fun _ _ _ _ _ _ us hl => match us, hl with | [_, _, _], _ => rfl
theorem bi__law_deep : BI ("_law_deep" : Str) ("_law_deep" : Str) s__law_deep ["script", "pool", "many"] := fun _ _ _ _ _ _ us hl => match us, hl with | [_, _, _], _ => rfl
theorem bi__law_named : BI ("_law_named" : Str) ("_law_named" : Str) s__law_named ["many", "rows"] := fun _ _ _ _ _ _ us hl => match us, hl with | [_, _], _ => rfl
theorem bi__law_rowed : BI ("_law_rowed" : Str) ("_law_rowed" : Str) s__law_rowed ["many"] := fun _ _ _ _ _ _ us hl => match us, hl with | [_], _ => rfl
theorem bi__law_kept : BI ("_law_kept" : Str) ("_law_kept" : Str) s__law_kept ["many"] := fun _ _ _ _ _ _ us hl => match us, hl with | [_], _ => rfl
theorem bi__law_refused : BI ("_law_refused" : Str) ("_law_refused" : Str) s__law_refused ["thing"] := fun _ _ _ _ _ _ us hl => match us, hl with | [_], _ => rfl
theorem bi__law_says : BI ("_law_says" : Str) ("_law_says" : Str) s__law_says ["value", "due"] := fun _ _ _ _ _ _ us hl => match us, hl with | [_, _], _ => rfl
theorem bi__law_told : BI ("_law_told" : Str) ("_law_told" : Str) s__law_told ["thing", "is_right"] := fun _ _ _ _ _ _ us hl => match us, hl with | [_, _], _ => rfl
theorem bi_law : BI ("law" : Str) ("law" : Str) s_law ["script"] := fun _ _ _ _ _ _ us hl => match us, hl with | [_], _ => rfl
theorem stb_NoEnvironment : StB sx_NoEnvironment.params sx_NoEnvironment.body sx_NoEnvironment.scope ["name"] [(("name" : Str), ("name" : Str))] := ⟨rfl, rfl, rfl, by decide +kernel, by decide +kernel, by decide +kernel, by decide +kernel, ⟨_, rfl, rfl⟩, by decide +kernel, fun _ _ _ _ _ _ _ _ _ us hl => match us, hl with | [_, _], _ => rfl, by decide +kernel, ⟨_, _, _, _, _, _, _, _, _, rfl, fun _ => ⟨_, rfl⟩, (.cons .nil)⟩⟩
theorem stb_NoOpen : StB sx_NoOpen.params sx_NoOpen.body sx_NoOpen.scope ["spot"] [(("spot" : Str), ("spot" : Str))] := ⟨rfl, rfl, rfl, by decide +kernel, by decide +kernel, by decide +kernel, by decide +kernel, ⟨_, rfl, rfl⟩, by decide +kernel, fun _ _ _ _ _ _ _ _ _ us hl => match us, hl with | [_, _], _ => rfl, by decide +kernel, ⟨_, _, _, _, _, _, _, _, _, rfl, fun _ => ⟨_, rfl⟩, (.cons .nil)⟩⟩
abbrev SupP (P : Program) : Prop := P.main.file = fileD ∧ (P.main.scope.names.lookup ("super" : Str)).isSome = false
structure UF (K : PySem.W.Frag) (mg : Str → Option Value) (w : World) : Prop extends SF K mg w where
  u_is_row : UG K mg ("is_row" : Str) s_is_row
  u_is_name : UG K mg ("is_name" : Str) s_is_name
  u_frozen : UG K mg ("frozen" : Str) s_frozen
  u_is_whole : UG K mg ("is_whole" : Str) s_is_whole
  u_is_atom : UG K mg ("is_atom" : Str) s_is_atom
  u_is_item : UG K mg ("is_item" : Str) s_is_item
  u_items_fault : UG K mg ("items_fault" : Str) s_items_fault
  u_test_fault : UG K mg ("test_fault" : Str) s_test_fault
  u_behind : UG K mg ("behind" : Str) s_behind
  u_each_fault : UG K mg ("each_fault" : Str) s_each_fault
  u_last_fault : UG K mg ("last_fault" : Str) s_last_fault
  u_part_fault : UG K mg ("part_fault" : Str) s_part_fault
  u_surveyed : UG K mg ("surveyed" : Str) s_surveyed
  u_depth_of : UG K mg ("depth_of" : Str) s_depth_of
  u_within_bounds : UG K mg ("within_bounds" : Str) s_within_bounds
  u_open_fault : UG K mg ("open_fault" : Str) s_open_fault
  u_is_open : UG K mg ("is_open" : Str) s_is_open
  u_opened : UG K mg ("opened" : Str) s_opened
  u_row_names : UG K mg ("row_names" : Str) s_row_names
  u_variables : UG K mg ("variables" : Str) s_variables
  u_most_names : UG K mg ("most_names" : Str) s_most_names
  u_ways : UG K mg ("ways" : Str) s_ways
  u_are_atoms : UG K mg ("are_atoms" : Str) s_are_atoms
  u_is_right_row : UG K mg ("is_right_row" : Str) s_is_right_row
  u_rows_for : UG K mg ("rows_for" : Str) s_rows_for
  u_atom_of : UG K mg ("atom_of" : Str) s_atom_of
  u_passes : UG K mg ("passes" : Str) s_passes
  u_result_of : UG K mg ("result_of" : Str) s_result_of
  u_lead : UG K mg ("lead" : Str) s_lead
  u_led : UG K mg ("led" : Str) s_led
  u_row_of : UG K mg ("row_of" : Str) s_row_of
  u__law_take : UG K mg ("_law_take" : Str) s__law_take
  u__law_wide : UG K mg ("_law_wide" : Str) s__law_wide
  u__law_even : UG K mg ("_law_even" : Str) s__law_even
  u__law_deep : UG K mg ("_law_deep" : Str) s__law_deep
  u__law_named : UG K mg ("_law_named" : Str) s__law_named
  u__law_rowed : UG K mg ("_law_rowed" : Str) s__law_rowed
  u__law_kept : UG K mg ("_law_kept" : Str) s__law_kept
  u__law_refused : UG K mg ("_law_refused" : Str) s__law_refused
  u__law_says : UG K mg ("_law_says" : Str) s__law_says
  u__law_told : UG K mg ("_law_told" : Str) s__law_told
  u_law : UG K mg ("law" : Str) s_law
  sx_NoEnvironment : SxU K mg fileD sx_NoEnvironment [(("name" : Str), ("name" : Str))]
  sx_NoOpen : SxU K mg fileD sx_NoOpen [(("spot" : Str), ("spot" : Str))]
theorem all_ok {P : Program} {w : World} {K : PySem.W.Frag} {mg : Str → Option Value} {base : Heap} (U : UF K mg w) (hP : SupP P) (hst : StaD base) : ∀ n, TT P w K mg base (2 * n) (F n)
  | 0 => { U.toSF with
    f__law_deep := ug_ok0 U.u__law_deep bi__law_deep
    f__law_even := ug_ok0 U.u__law_even bi__law_even
    f__law_kept := ug_ok0 U.u__law_kept bi__law_kept
    f__law_named := ug_ok0 U.u__law_named bi__law_named
    f__law_refused := ug_ok0 U.u__law_refused bi__law_refused
    f__law_rowed := ug_ok0 U.u__law_rowed bi__law_rowed
    f__law_says := ug_ok0 U.u__law_says bi__law_says
    f__law_take := ug_ok0 U.u__law_take bi__law_take
    f__law_told := ug_ok0 U.u__law_told bi__law_told
    f__law_wide := ug_ok0 U.u__law_wide bi__law_wide
    f_are_atoms := ug_ok0 U.u_are_atoms bi_are_atoms
    f_atom_of := ug_ok0 U.u_atom_of bi_atom_of
    f_behind := ug_ok0 U.u_behind bi_behind
    f_depth_of := ug_ok0 U.u_depth_of bi_depth_of
    f_each_fault := ug_ok0 U.u_each_fault bi_each_fault
    f_frozen := ug_ok0 U.u_frozen bi_frozen
    f_is_atom := ug_ok0 U.u_is_atom bi_is_atom
    f_is_item := ug_ok0 U.u_is_item bi_is_item
    f_is_name := ug_ok0 U.u_is_name bi_is_name
    f_is_open := ug_ok0 U.u_is_open bi_is_open
    f_is_right_row := ug_ok0 U.u_is_right_row bi_is_right_row
    f_is_row := ug_ok0 U.u_is_row bi_is_row
    f_is_whole := ug_ok0 U.u_is_whole bi_is_whole
    f_items_fault := ug_ok0 U.u_items_fault bi_items_fault
    f_last_fault := ug_ok0 U.u_last_fault bi_last_fault
    f_lead := ug_ok0 U.u_lead bi_lead
    f_led := ug_ok0 U.u_led bi_led
    f_most_names := ug_ok0 U.u_most_names bi_most_names
    f_open_fault := ug_ok0 U.u_open_fault bi_open_fault
    f_opened := ug_ok0 U.u_opened bi_opened
    f_part_fault := ug_ok0 U.u_part_fault bi_part_fault
    f_passes := ug_ok0 U.u_passes bi_passes
    f_result_of := ug_ok0 U.u_result_of bi_result_of
    f_row_names := ug_ok0 U.u_row_names bi_row_names
    f_row_of := ug_ok0 U.u_row_of bi_row_of
    f_rows_for := ug_ok0 U.u_rows_for bi_rows_for
    f_surveyed := ug_ok0 U.u_surveyed bi_surveyed
    f_test_fault := ug_ok0 U.u_test_fault bi_test_fault
    f_variables := ug_ok0 U.u_variables bi_variables
    f_ways := ug_ok0 U.u_ways bi_ways
    f_within_bounds := ug_ok0 U.u_within_bounds bi_within_bounds
    rx_NoEnvironment := rx_u U.sx_NoEnvironment stb_NoEnvironment hP hst rfl (by decide +kernel) (by decide) (by decide) (by decide)
    rx_NoOpen := rx_u U.sx_NoOpen stb_NoOpen hP hst rfl (by decide +kernel) (by decide) (by decide) (by decide) }
  | n + 1 => have T := all_ok (P := P) (base := base) U hP hst n
    { U.toSF with
    f__law_deep := ug_ok U.u__law_deep bi__law_deep sc__law_deep (d__law_deep T)
    f__law_even := ug_ok U.u__law_even bi__law_even sc__law_even (d__law_even T)
    f__law_kept := ug_ok U.u__law_kept bi__law_kept sc__law_kept (d__law_kept T)
    f__law_named := ug_ok U.u__law_named bi__law_named sc__law_named (d__law_named T)
    f__law_refused := ug_ok U.u__law_refused bi__law_refused sc__law_refused (d__law_refused T)
    f__law_rowed := ug_ok U.u__law_rowed bi__law_rowed sc__law_rowed (d__law_rowed T)
    f__law_says := ug_ok U.u__law_says bi__law_says sc__law_says (d__law_says T)
    f__law_take := ug_ok U.u__law_take bi__law_take sc__law_take (d__law_take T)
    f__law_told := ug_ok U.u__law_told bi__law_told sc__law_told (d__law_told T)
    f__law_wide := ug_ok U.u__law_wide bi__law_wide sc__law_wide (d__law_wide T)
    f_are_atoms := ug_ok U.u_are_atoms bi_are_atoms sc_are_atoms (d_are_atoms T)
    f_atom_of := ug_ok U.u_atom_of bi_atom_of sc_atom_of (d_atom_of T)
    f_behind := ug_ok U.u_behind bi_behind sc_behind (d_behind T)
    f_depth_of := ug_ok U.u_depth_of bi_depth_of sc_depth_of (d_depth_of T)
    f_each_fault := ug_ok U.u_each_fault bi_each_fault sc_each_fault (d_each_fault T)
    f_frozen := ug_ok U.u_frozen bi_frozen sc_frozen (d_frozen T)
    f_is_atom := ug_ok U.u_is_atom bi_is_atom sc_is_atom (d_is_atom T)
    f_is_item := ug_ok U.u_is_item bi_is_item sc_is_item (d_is_item T)
    f_is_name := ug_ok U.u_is_name bi_is_name sc_is_name (d_is_name T)
    f_is_open := ug_ok U.u_is_open bi_is_open sc_is_open (d_is_open T)
    f_is_right_row := ug_ok U.u_is_right_row bi_is_right_row sc_is_right_row (d_is_right_row T)
    f_is_row := ug_ok U.u_is_row bi_is_row sc_is_row (d_is_row T)
    f_is_whole := ug_ok U.u_is_whole bi_is_whole sc_is_whole (d_is_whole T)
    f_items_fault := ug_ok U.u_items_fault bi_items_fault sc_items_fault (d_items_fault T)
    f_last_fault := ug_ok U.u_last_fault bi_last_fault sc_last_fault (d_last_fault T)
    f_lead := ug_ok U.u_lead bi_lead sc_lead (d_lead T)
    f_led := ug_ok U.u_led bi_led sc_led (d_led T)
    f_most_names := ug_ok U.u_most_names bi_most_names sc_most_names (d_most_names T)
    f_open_fault := ug_ok U.u_open_fault bi_open_fault sc_open_fault (d_open_fault T)
    f_opened := ug_ok U.u_opened bi_opened sc_opened (d_opened T)
    f_part_fault := ug_ok U.u_part_fault bi_part_fault sc_part_fault (d_part_fault T)
    f_passes := ug_ok U.u_passes bi_passes sc_passes (d_passes T)
    f_result_of := ug_ok U.u_result_of bi_result_of sc_result_of (d_result_of T)
    f_row_names := ug_ok U.u_row_names bi_row_names sc_row_names (d_row_names T)
    f_row_of := ug_ok U.u_row_of bi_row_of sc_row_of (d_row_of T)
    f_rows_for := ug_ok U.u_rows_for bi_rows_for sc_rows_for (d_rows_for T)
    f_surveyed := ug_ok U.u_surveyed bi_surveyed sc_surveyed (d_surveyed T)
    f_test_fault := ug_ok U.u_test_fault bi_test_fault sc_test_fault (d_test_fault T)
    f_variables := ug_ok U.u_variables bi_variables sc_variables (d_variables T)
    f_ways := ug_ok U.u_ways bi_ways sc_ways (d_ways T)
    f_within_bounds := ug_ok U.u_within_bounds bi_within_bounds sc_within_bounds (d_within_bounds T)
    rx_NoEnvironment := rx_u U.sx_NoEnvironment stb_NoEnvironment hP hst rfl (by decide +kernel) (by decide) (by decide) (by decide)
    rx_NoOpen := rx_u U.sx_NoOpen stb_NoOpen hP hst rfl (by decide +kernel) (by decide) (by decide) (by decide) }
theorem facts {w : World} {K : PySem.W.Frag} {h : Heap} {mg : Str → Option Value} (X : K.In h) (G : h.Ns mainGlobals mg) (c : He.SaysX faD fnD tsD [] exD w h K) (cs : (sxD.map fun d => supW K d.cls) = sxD.map SupD.val) : UF K mg w := by
  have cd := c.t.d
  have glo : ∀ x, (He.Fa.glo x) ∈ faD → mg x = some (.ref (He.ga K x)) := fun x hx => He.glo_ok X G (cd.facts hx)
  have exx := c.more
  unfold exD at exx
  simp only [Bool.and_eq_true, Bool.true_and] at exx
  obtain ⟨⟨⟨⟨⟨⟨⟨ex_LENGTHS, ex_OPPOSITES⟩, ex_WORDS⟩, ex_fcs_spot⟩, ex_supB_NoEnvironment⟩, ex_supK_NoEnvironment⟩, ex_supB_NoOpen⟩, ex_supK_NoOpen⟩ := exx
  have tab_LENGTHS : He.dicW K (He.ga K ("LENGTHS" : Str)) = some (He.keysIn w.params ks_LENGTHS) := by
    have e : tsD.map (fun t => He.dicW K (t.1 K)) = tsD.map fun t => some (He.keysIn w.params t.2) := congrArg (fun z : He.AlT => z.2) c.t
    have e2 : (tsD.map fun t => He.dicW K (t.1 K))[0]? = (tsD.map fun t => some (He.keysIn w.params t.2))[0]? := by rw [e]
    exact Option.some.inj e2
  have gd_LENGTHS := gd_ok (mg := mg) (w := w) (kvs := kv_LENGTHS) (glo "LENGTHS" (List.mem_of_getElem? (i := 56) rfl)) tab_LENGTHS rfl (fun z wv hz => vals_look ex_LENGTHS (by decide +kernel) hz)
  have tab_OPPOSITES : He.dicW K (He.ga K ("OPPOSITES" : Str)) = some (He.keysIn w.params ks_OPPOSITES) := by
    have e : tsD.map (fun t => He.dicW K (t.1 K)) = tsD.map fun t => some (He.keysIn w.params t.2) := congrArg (fun z : He.AlT => z.2) c.t
    have e2 : (tsD.map fun t => He.dicW K (t.1 K))[1]? = (tsD.map fun t => some (He.keysIn w.params t.2))[1]? := by rw [e]
    exact Option.some.inj e2
  have gd_OPPOSITES := gd_ok (mg := mg) (w := w) (kvs := kv_OPPOSITES) (glo "OPPOSITES" (List.mem_of_getElem? (i := 62) rfl)) tab_OPPOSITES rfl (fun z wv hz => vals_look ex_OPPOSITES (by decide +kernel) hz)
  have mg_NoEnvironment := glo "NoEnvironment" (List.mem_of_getElem? (i := 65) rfl)
  have mg_NoOpen := glo "NoOpen" (List.mem_of_getElem? (i := 66) rfl)
  have exx0 : ExOk K mg xsT csT subT := ex_of (L := exL) ((ex_cons (exm_cl (glo "NoEnvironment" (List.mem_of_getElem? (i := 65) rfl)) (glo "NoEnvironment" (List.mem_of_getElem? (i := 65) rfl)) (cd.facts (List.mem_of_getElem? (i := 67) rfl))) (ex_cons (exm_cl (glo "NoEnvironment" (List.mem_of_getElem? (i := 65) rfl)) (glo "NoOpen" (List.mem_of_getElem? (i := 66) rfl)) (cd.facts (List.mem_of_getElem? (i := 68) rfl))) (ex_cons (exm_cl (glo "NoOpen" (List.mem_of_getElem? (i := 66) rfl)) (glo "NoEnvironment" (List.mem_of_getElem? (i := 65) rfl)) (cd.facts (List.mem_of_getElem? (i := 69) rfl))) (ex_cons (exm_cl (glo "NoOpen" (List.mem_of_getElem? (i := 66) rfl)) (glo "NoOpen" (List.mem_of_getElem? (i := 66) rfl)) (cd.facts (List.mem_of_getElem? (i := 70) rfl))) ex_nil))))) (by decide +kernel)
  refine { gd := ?gd, cf := ?cf, b_bool := He.free_ok X G (cd.facts (List.mem_of_getElem? (i := 42) rfl)), b_dict := He.free_ok X G (cd.facts (List.mem_of_getElem? (i := 43) rfl)), b_int := He.free_ok X G (cd.facts (List.mem_of_getElem? (i := 44) rfl)), b_isinstance := He.free_ok X G (cd.facts (List.mem_of_getElem? (i := 45) rfl)), b_len := He.free_ok X G (cd.facts (List.mem_of_getElem? (i := 46) rfl)), b_list := He.free_ok X G (cd.facts (List.mem_of_getElem? (i := 47) rfl)), b_max := He.free_ok X G (cd.facts (List.mem_of_getElem? (i := 48) rfl)), b_min := He.free_ok X G (cd.facts (List.mem_of_getElem? (i := 49) rfl)), b_ord := He.free_ok X G (cd.facts (List.mem_of_getElem? (i := 50) rfl)), b_range := He.free_ok X G (cd.facts (List.mem_of_getElem? (i := 51) rfl)), b_set := He.free_ok X G (cd.facts (List.mem_of_getElem? (i := 52) rfl)), b_sorted := He.free_ok X G (cd.facts (List.mem_of_getElem? (i := 53) rfl)), b_str := He.free_ok X G (cd.facts (List.mem_of_getElem? (i := 54) rfl)), b_tuple := He.free_ok X G (cd.facts (List.mem_of_getElem? (i := 55) rfl)), g_LENGTHS := gv_glo (glo "LENGTHS" (List.mem_of_getElem? (i := 56) rfl)), g_MOST_ATOMS := gv_int (He.int_ok X G (cd.facts (List.mem_of_getElem? (i := 57) rfl))), g_MOST_DEEP := gv_int (He.int_ok X G (cd.facts (List.mem_of_getElem? (i := 58) rfl))), g_MOST_ITEMS := gv_int (He.int_ok X G (cd.facts (List.mem_of_getElem? (i := 59) rfl))), g_MOST_NAMES := gv_int (He.int_ok X G (cd.facts (List.mem_of_getElem? (i := 60) rfl))), g_MOST_PARTS := gv_int (He.int_ok X G (cd.facts (List.mem_of_getElem? (i := 61) rfl))), g_OPPOSITES := gv_glo (glo "OPPOSITES" (List.mem_of_getElem? (i := 62) rfl)), g_WORDS := gv_tup (glo "WORDS" (List.mem_of_getElem? (i := 63) rfl)) rfl ex_WORDS (fun _ _ => flsW_ok (by decide +kernel)), x_NoEnvironment := ⟨_, glo "NoEnvironment" (List.mem_of_getElem? (i := 65) rfl)⟩, x_NoOpen := ⟨_, glo "NoOpen" (List.mem_of_getElem? (i := 66) rfl)⟩, fl_spot := fl_of (cs := fcs_spot) (by intro p hp; simp only [fcs_spot, List.mem_cons, List.not_mem_nil, or_false] at hp; rcases hp with rfl <;> assumption) ex_fcs_spot, sx_NoEnvironment := ⟨mg_NoEnvironment, Option.some.inj (congrArg (fun l : List FnS => l[0]?) cs), ex_supB_NoEnvironment, ex_supK_NoEnvironment, He.free_ok X G (cd.facts (List.mem_of_getElem? (i := 64) rfl))⟩, sx_NoOpen := ⟨mg_NoOpen, Option.some.inj (congrArg (fun l : List FnS => l[1]?) cs), ex_supB_NoOpen, ex_supK_NoOpen, He.free_ok X G (cd.facts (List.mem_of_getElem? (i := 64) rfl))⟩, ex := exx0, u_is_row := ⟨_, glo "is_row" (List.mem_of_getElem? (i := 0) rfl), cd.def_ 0 rfl⟩, u_is_name := ⟨_, glo "is_name" (List.mem_of_getElem? (i := 1) rfl), cd.def_ 1 rfl⟩, u_frozen := ⟨_, glo "frozen" (List.mem_of_getElem? (i := 2) rfl), cd.def_ 2 rfl⟩, u_is_whole := ⟨_, glo "is_whole" (List.mem_of_getElem? (i := 3) rfl), cd.def_ 3 rfl⟩, u_is_atom := ⟨_, glo "is_atom" (List.mem_of_getElem? (i := 4) rfl), cd.def_ 4 rfl⟩, u_is_item := ⟨_, glo "is_item" (List.mem_of_getElem? (i := 5) rfl), cd.def_ 5 rfl⟩, u_items_fault := ⟨_, glo "items_fault" (List.mem_of_getElem? (i := 6) rfl), cd.def_ 6 rfl⟩, u_test_fault := ⟨_, glo "test_fault" (List.mem_of_getElem? (i := 7) rfl), cd.def_ 7 rfl⟩, u_behind := ⟨_, glo "behind" (List.mem_of_getElem? (i := 8) rfl), cd.def_ 8 rfl⟩, u_each_fault := ⟨_, glo "each_fault" (List.mem_of_getElem? (i := 9) rfl), cd.def_ 9 rfl⟩, u_last_fault := ⟨_, glo "last_fault" (List.mem_of_getElem? (i := 10) rfl), cd.def_ 10 rfl⟩, u_part_fault := ⟨_, glo "part_fault" (List.mem_of_getElem? (i := 11) rfl), cd.def_ 11 rfl⟩, u_surveyed := ⟨_, glo "surveyed" (List.mem_of_getElem? (i := 12) rfl), cd.def_ 12 rfl⟩, u_depth_of := ⟨_, glo "depth_of" (List.mem_of_getElem? (i := 13) rfl), cd.def_ 13 rfl⟩, u_within_bounds := ⟨_, glo "within_bounds" (List.mem_of_getElem? (i := 14) rfl), cd.def_ 14 rfl⟩, u_open_fault := ⟨_, glo "open_fault" (List.mem_of_getElem? (i := 15) rfl), cd.def_ 15 rfl⟩, u_is_open := ⟨_, glo "is_open" (List.mem_of_getElem? (i := 16) rfl), cd.def_ 16 rfl⟩, u_opened := ⟨_, glo "opened" (List.mem_of_getElem? (i := 17) rfl), cd.def_ 17 rfl⟩, u_row_names := ⟨_, glo "row_names" (List.mem_of_getElem? (i := 18) rfl), cd.def_ 18 rfl⟩, u_variables := ⟨_, glo "variables" (List.mem_of_getElem? (i := 19) rfl), cd.def_ 19 rfl⟩, u_most_names := ⟨_, glo "most_names" (List.mem_of_getElem? (i := 20) rfl), cd.def_ 20 rfl⟩, u_ways := ⟨_, glo "ways" (List.mem_of_getElem? (i := 21) rfl), cd.def_ 21 rfl⟩, u_are_atoms := ⟨_, glo "are_atoms" (List.mem_of_getElem? (i := 22) rfl), cd.def_ 22 rfl⟩, u_is_right_row := ⟨_, glo "is_right_row" (List.mem_of_getElem? (i := 23) rfl), cd.def_ 23 rfl⟩, u_rows_for := ⟨_, glo "rows_for" (List.mem_of_getElem? (i := 24) rfl), cd.def_ 24 rfl⟩, u_atom_of := ⟨_, glo "atom_of" (List.mem_of_getElem? (i := 25) rfl), cd.def_ 25 rfl⟩, u_passes := ⟨_, glo "passes" (List.mem_of_getElem? (i := 26) rfl), cd.def_ 26 rfl⟩, u_result_of := ⟨_, glo "result_of" (List.mem_of_getElem? (i := 27) rfl), cd.def_ 27 rfl⟩, u_lead := ⟨_, glo "lead" (List.mem_of_getElem? (i := 28) rfl), cd.def_ 28 rfl⟩, u_led := ⟨_, glo "led" (List.mem_of_getElem? (i := 29) rfl), cd.def_ 29 rfl⟩, u_row_of := ⟨_, glo "row_of" (List.mem_of_getElem? (i := 30) rfl), cd.def_ 30 rfl⟩, u__law_take := ⟨_, glo "_law_take" (List.mem_of_getElem? (i := 31) rfl), cd.def_ 31 rfl⟩, u__law_wide := ⟨_, glo "_law_wide" (List.mem_of_getElem? (i := 32) rfl), cd.def_ 32 rfl⟩, u__law_even := ⟨_, glo "_law_even" (List.mem_of_getElem? (i := 33) rfl), cd.def_ 33 rfl⟩, u__law_deep := ⟨_, glo "_law_deep" (List.mem_of_getElem? (i := 34) rfl), cd.def_ 34 rfl⟩, u__law_named := ⟨_, glo "_law_named" (List.mem_of_getElem? (i := 35) rfl), cd.def_ 35 rfl⟩, u__law_rowed := ⟨_, glo "_law_rowed" (List.mem_of_getElem? (i := 36) rfl), cd.def_ 36 rfl⟩, u__law_kept := ⟨_, glo "_law_kept" (List.mem_of_getElem? (i := 37) rfl), cd.def_ 37 rfl⟩, u__law_refused := ⟨_, glo "_law_refused" (List.mem_of_getElem? (i := 38) rfl), cd.def_ 38 rfl⟩, u__law_says := ⟨_, glo "_law_says" (List.mem_of_getElem? (i := 39) rfl), cd.def_ 39 rfl⟩, u__law_told := ⟨_, glo "_law_told" (List.mem_of_getElem? (i := 40) rfl), cd.def_ 40 rfl⟩, u_law := ⟨_, glo "law" (List.mem_of_getElem? (i := 41) rfl), cd.def_ 41 rfl⟩ }
  case gd =>
    intro x kvs hx
    unfold gdT at hx
    by_cases e_LENGTHS : x = ("LENGTHS" : Str)
    · subst e_LENGTHS
      rw [if_pos rfl] at hx
      cases hx
      exact gd_LENGTHS
    rw [if_neg e_LENGTHS] at hx
    by_cases e_OPPOSITES : x = ("OPPOSITES" : Str)
    · subst e_OPPOSITES
      rw [if_pos rfl] at hx
      cases hx
      exact gd_OPPOSITES
    rw [if_neg e_OPPOSITES] at hx
    cases hx
  case cf =>
    intro c f hf
    unfold cfT at hf
    cases hf
end Sh

set_option Elab.async false
set_option linter.all false
set_option maxRecDepth 100000
set_option maxHeartbeats 2000000
/-! ShL: running the model: rules for simp; a def's end; loops. -/
namespace Sh
open PySem L2

theorem fuel_line : (sizeLine : Nat) < fuel := Nat.lt_of_lt_of_le (by decide) fuel_ge
/-! ### one step -/
section
variable {e : En} {S S1 : Store} {w x y : W} {m : Bool}
@[simp] theorem eVar_ap (i : Nat) : eVar i e S = match e[i]? with | some (some w) => .ok w S | _ => .bad := rfl
@[simp] theorem eC_ap : eC w e S = .ok w S := rfl
@[simp] theorem e1_ap {f : P1} {a : EM} : e1 f a e S = (a e S).bind fun x S1 => lift (f x S1) := rfl
@[simp] theorem e2_ap {f : P2} {a b : EM} : e2 f a b e S = (a e S).bind fun x S1 => (b e S1).bind fun y S2 => lift (f x y S2) := rfl
@[simp] theorem evs_nil : evs [] e S = .ok [] S := rfl
@[simp] theorem evs_cons {a : EM} {as : List EM} : evs (a :: as) e S = (a e S).bind fun x S1 => (evs as e S1).bind fun xs S2 => .ok (x :: xs) S2 := rfl
@[simp] theorem eN_ap {f : PN} {as : List EM} : eN f as e S = (evs as e S).bind fun xs S1 => lift (f xs S1) := rfl
@[simp] theorem eCall_ap {C : List W → Store → R W} {as : List EM} : eCall C as e S = (evs as e S).bind fun xs S1 => C xs S1 := rfl
@[simp] theorem eIf_ap {c : TM} {a b : EM} : eIf c a b e S = (c e S).bind fun k S1 => if k = true then a e S1 else b e S1 := rfl
@[simp] theorem tE_ap {a : EM} : tE a e S = (a e S).bind fun w S1 => liftB (truW w S1) S1 := rfl
@[simp] theorem tB_ap {a : EM} : tB a e S = (a e S).bind fun w S1 => liftB (bolW w) S1 := rfl
@[simp] theorem tNot_ap {t : TM} : tNot t e S = (t e S).bind fun b S1 => .ok (!b) S1 := rfl
@[simp] theorem tAnd_ap {t u : TM} : tAnd t u e S = (t e S).bind fun b S1 => if b = true then u e S1 else .ok false S1 := rfl
@[simp] theorem tOr_ap {t u : TM} : tOr t u e S = (t e S).bind fun b S1 => if b = true then .ok true S1 else u e S1 := rfl
def andK (x : W) (S : Store) (r : Store → R W) : R W := (liftB (truW x S) S).bind fun k S1 => if k = true then r S1 else .ok x S1
def orK (x : W) (S : Store) (r : Store → R W) : R W := (liftB (truW x S) S).bind fun k S1 => if k = true then .ok x S1 else r S1
@[simp] theorem andK_bl {k : Bool} {r : Store → R W} : andK (.bl k) S r = if k = true then r S else .ok (.bl false) S := by cases k <;> rfl
@[simp] theorem orK_bl {k : Bool} {r : Store → R W} : orK (.bl k) S r = if k = true then .ok (.bl true) S else r S := by cases k <;> rfl
@[simp] theorem eAnd_ap {a b : EM} : eAnd a b e S = (a e S).bind fun x S1 => andK x S1 (b e) := rfl
@[simp] theorem eOr_ap {a b : EM} : eOr a b e S = (a e S).bind fun x S1 => orK x S1 (b e) := rfl
@[simp] theorem eNot_ap {a : EM} : eNot a e S = (a e S).bind fun x S1 => (liftB (truW x S1) S1).bind fun k S1 => .ok (.bl (!k)) S1 := rfl
@[simp] theorem eChain_ap {f g : P2} {a b c : EM} : eChain f g a b c e S = (a e S).bind fun x S1 => (b e S1).bind fun y S2 => (lift (f x y S2)).bind fun k S3 => (liftB (bolW k) S3).bind fun k S4 => if k = true then (c e S4).bind fun z S5 => lift (g y z S5) else .ok (.bl false) S4 := rfl
@[simp] theorem eMeth_ap {T : String} {f : W → PN} {o : EM} {as : List EM} : eMeth T f o as e S = (o e S).bind fun x S1 => if tyM T x S1 then (evs as e S1).bind fun xs S2 => lift (f x xs S2) else .bad := rfl
@[simp] theorem eMet_ap {c n : Str} {C : Cal} {o : EM} {as : List EM} : eMet c n C o as e S = (o e S).bind fun x S1 => match x with
  | .ref a => match S1[a]? with
    | some (.ins c' fs) => if c' = c ∧ fs.lookup n = none then (evs as e S1).bind fun xs S2 => C (x :: xs) S2 else .bad
    | _ => .bad
  | _ => .bad := rfl
@[simp] theorem eMake_ap {c : Str} {C : Cal} {as : List EM} : eMake c C as e S = (evs as e S).bind fun xs S1 => (C (.ref S1.length :: xs) (S1 ++ [.ins c []])).bind fun w S2 => match w with
  | .non => .ok (.ref S1.length) S2
  | _ => .bad := rfl
@[simp] theorem eCallK_ap {C : Cal} {as ks : List EM} {n : Nat} : eCallK C as ks n e S = (evs as e S).bind fun xs S1 => (evs ks e S1).bind fun ys S2 => if ys.length = n then C (xs ++ ys) S2 else .bad := rfl
@[simp] theorem evO_none : evO none e S = .ok none S := rfl
@[simp] theorem evO_some {a : EM} : evO (some a) e S = (a e S).bind fun w S1 => match w with
    | .int i => .ok (some i) S1
    | _ => .bad := rfl
@[simp] theorem eCut_ap {a : EM} {lo hi : OM} : eCut m a lo hi e S = (a e S).bind fun x S1 => (evO lo e S1).bind fun l S2 => (evO hi e S2).bind fun h S3 => lift (cutW m x l h S3) := rfl
@[simp] theorem eDict0_ap : eDict0 m e S = .ok (mkD m [] S).1 (mkD m [] S).2 := rfl
@[simp] theorem sNil_ap : sNil e S = .nx e S := rfl
@[simp] theorem sSeq_ap {a b : SM} : sSeq a b e S = (a e S).seq b := rfl
@[simp] theorem sIf_ap {c : TM} {a b : SM} : sIf c a b e S = (c e S).thn e fun k S1 => if k = true then a e S1 else b e S1 := rfl
@[simp] theorem sRet_ap {a : EM} : sRet a e S = (a e S).thn e fun w S1 => .ret w S1 := rfl
@[simp] theorem sRetN_ap : sRetN e S = .ret .non S := rfl
@[simp] theorem sExpr_ap {a : EM} : sExpr a e S = (a e S).thn e fun _ S1 => .nx e S1 := rfl
@[simp] theorem sBrk_ap : sBrk e S = .brk e S := rfl
@[simp] theorem sCnt_ap : sCnt e S = .cnt e S := rfl
@[simp] theorem sBad_ap : sBad e S = .bad := rfl
@[simp] theorem sSet_ap {i : Nat} {a : EM} : sSet i a e S = (a e S).thn e fun w S1 => .nx (e.set i (some w)) S1 := rfl
@[simp] theorem sAsg_ap {g : GM} {a : EM} : sAsg g a e S = (a e S).thn e fun w S1 => RSof (g w e S1) := rfl
@[simp] theorem sPar_ap {i j : Nat} {a b : EM} : sPar i j a b e S = (a e S).thn e fun x S1 => (b e S1).thn e fun y S2 => .nx ((e.set i (some x)).set j (some y)) S2 := rfl
@[simp] theorem sAug_ap {i : Nat} {f : P2} {a : EM} : sAug i f a e S = match e[i]? with
  | some (some x) => (a e S).thn e fun y S1 => (lift (f x y S1)).thn e fun z S2 => .nx (e.set i (some z)) S2
  | _ => .bad := rfl
@[simp] theorem sSetIx_ap {f : P3} {o i a : EM} : sSetIx f o i a e S = (a e S).thn e fun v S1 => (o e S1).thn e fun x S2 => (i e S2).thn e fun y S3 => match f x y v S3 with
  | some S4 => .nx e S4
  | none => .bad := rfl
@[simp] theorem sFldW_ap {cf : CF} {o : EM} {f : Str} {a : EM} : sFldW cf o f a e S = (a e S).thn e fun v S1 => (o e S1).thn e fun x S2 => match x with
  | .ref p => match S2[p]? with
    | some (.ins c fs) => if f ∈ cf c ∧ fs.length < 1000 then .nx e (S2.set p (.ins c (putW' f v fs))) else .bad
    | _ => .bad
  | _ => .bad := rfl
@[simp] theorem gVar_ap (i : Nat) : gVar i w e S = some (e.set i (some w), S) := rfl
@[simp] theorem gRow_tup {is : List Nat} {ws : List W} : gRow is (.tup ws) e S = if ws.length = is.length then some (setVars is ws e, S) else none := rfl
@[simp] theorem gRow_lst {is : List Nat} {ws : List W} : gRow is (.lst ws) e S = if ws.length = is.length then some (setVars is ws e, S) else none := rfl
@[simp] theorem setVars_cons {i : Nat} {is : List Nat} {ws : List W} : setVars (i :: is) (w :: ws) e = setVars is ws (e.set i (some w)) := rfl
@[simp] theorem setVars_nil : setVars [] [] e = e := rfl
end

/-! ### primitives -/
section
variable {S : Store} {i j : Int} {a b : Str} {xs ys : List W} {m : Bool} {x y : W}
@[simp] theorem tru_bl {b : Bool} : truW (.bl b) S = some b := rfl
@[simp] theorem tru_non : truW .non S = some false := rfl
@[simp] theorem tru_int : truW (.int i) S = some (i != 0) := rfl
@[simp] theorem tru_tup : truW (.tup xs) S = some (!xs.isEmpty) := rfl
@[simp] theorem tru_lst : truW (.lst xs) S = some (!xs.isEmpty) := rfl
@[simp] theorem bol_bl {b : Bool} : bolW (.bl b) = some b := rfl
@[simp] theorem add_int : addW m (.int i) (.int j) S = some (.int (i + j), S) := rfl
@[simp] theorem add_str : addW m (.str a) (.str b) S = if a.length + b.length ≤ sizeLine then some (.str (a ++ b), S) else none := rfl
@[simp] theorem add_tup : addW m (.tup xs) (.tup ys) S = if xs.length + ys.length ≤ sizeLine then some (.tup (xs ++ ys), S) else none := rfl
@[simp] theorem add_lst : addW m (.lst xs) (.lst ys) S = if xs.length + ys.length ≤ sizeLine then some (mkL m (xs ++ ys) S) else none := rfl
@[simp] theorem sub_int : subW (.int i) (.int j) S = some (.int (i - j), S) := rfl
@[simp] theorem mul_int : mulW m (.int i) (.int j) S = if (-(2 ^ 64) < i ∧ i < 2 ^ 64) ∨ (-(2 ^ 64) < j ∧ j < 2 ^ 64) then some (.int (i * j), S) else none := rfl
@[simp] theorem mul_str {k : Int} : mulW m (.str a) (.int k) S = if a.length ≤ 1000 ∧ -(2 ^ 63) ≤ k ∧ k ≤ 1000 then some (.str (Txt.mul a k), S) else none := rfl
@[simp] theorem mul_lst {k : Int} : mulW m (.lst xs) (.int k) S = if -(2 ^ 63) ≤ k ∧ k < 2 ^ 63 ∧ xs.length * k.toNat ≤ sizeLine then some (mkL m (List.replicate k.toNat xs).flatten S) else none := rfl
@[simp] theorem fdiv_int : fdivW (.int i) (.int j) S = if 0 < j ∧ j < 1073741824 then some (.int (i / j), S) else none := rfl
@[simp] theorem mod_int : modW (.int i) (.int j) S = if 0 < j then some (.int (i % j), S) else none := rfl
@[simp] theorem neg_int : negW (.int i) S = some (.int (-i), S) := rfl
@[simp] theorem iadd_int : iaddW (.int i) (.int j) S = some (.int (i + j), S) := rfl
@[simp] theorem iadd_str : iaddW (.str a) (.str b) S = if a.length + b.length ≤ sizeLine then some (.str (a ++ b), S) else none := rfl
@[simp] theorem eq_int : eqW (.int i) (.int j) S = some (.bl (decide (i = j)), S) := by simp [eqW, scV, L2.scal]
@[simp] theorem eq_str : eqW (.str a) (.str b) S = some (.bl (decide (a = b)), S) := by simp [eqW, scV, L2.scal]
@[simp] theorem ne_int : neW (.int i) (.int j) S = some (.bl (!decide (i = j)), S) := by simp [neW, scV, L2.scal]
@[simp] theorem ne_str : neW (.str a) (.str b) S = some (.bl (!decide (a = b)), S) := by simp [neW, scV, L2.scal]
@[simp] theorem lt_int : ltW (.int i) (.int j) S = some (.bl (decide (i < j)), S) := rfl
@[simp] theorem le_int : leW (.int i) (.int j) S = some (.bl (decide (i ≤ j)), S) := rfl
@[simp] theorem gt_int : gtW (.int i) (.int j) S = some (.bl (decide (j < i)), S) := rfl
@[simp] theorem ge_int : geW (.int i) (.int j) S = some (.bl (decide (j ≤ i)), S) := rfl
@[simp] theorem isN_ap : isNW x .non S = some (.bl (isNon x), S) := rfl
@[simp] theorem notN_ap : notNW x .non S = some (.bl (!isNon x), S) := rfl
@[simp] theorem tupN_ap : tupN xs S = if xs.length ≤ sizeLine then some (.tup xs, S) else none := rfl
@[simp] theorem lstN_ap : lstN m xs S = if xs.length ≤ sizeLine then some (mkL m xs S) else none := rfl
@[simp] theorem len_str : lenN [.str a] S = if a.length ≤ sizeLine then some (.int a.length, S) else none := rfl
@[simp] theorem len_tup : lenN [.tup xs] S = some (.int xs.length, S) := rfl
@[simp] theorem len_lst : lenN [.lst xs] S = some (.int xs.length, S) := rfl
@[simp] theorem abs_int : absN [.int i] S = some (.int (if i < 0 then -i else i), S) := rfl
@[simp] theorem int_int : intN [.int i] S = some (.int i, S) := rfl
@[simp] theorem int_bl {b : Bool} : intN [.bl b] S = some (.int (if b then 1 else 0), S) := rfl
@[simp] theorem min_int : minN [.int i, .int j] S = some (.int (if j < i then j else i), S) := rfl
@[simp] theorem max_int : maxN [.int i, .int j] S = some (.int (if j > i then j else i), S) := rfl
theorem str_int : strN [.int i] S = if -big ≤ i ∧ i < big then some (.str (toString i), S) else none := rfl
@[simp] theorem str_bl {b : Bool} : strN [.bl b] S = some (.str (if b then "True" else "False"), S) := rfl
@[simp] theorem str_str : strN [.str a] S = some (.str a, S) := rfl
@[simp] theorem ord_str : ordN [.str a] S = if a.length = 1 then some (.int (a.cps.getD 0 0 : Nat), S) else none := rfl
@[simp] theorem ord_chr {c : Nat} : ordN [chrW c] S = some (.int c, S) := by simp [chrW, ordN, Str.length]
@[simp] theorem list_tup : listN m [.tup xs] S = some (mkL m xs S) := rfl
@[simp] theorem list_lst : listN m [.lst xs] S = some (mkL m xs S) := rfl
@[simp] theorem tuple_tup : tupleN [.tup xs] S = some (.tup xs, S) := rfl
@[simp] theorem tuple_lst : tupleN [.lst xs] S = some (.tup xs, S) := rfl
@[simp] theorem get_tup {G : GD} : getW G (.tup xs) (.int i) S = (atI xs i).map fun w => (w, S) := rfl
@[simp] theorem get_lst {G : GD} : getW G (.lst xs) (.int i) S = (atI xs i).map fun w => (w, S) := rfl
@[simp] theorem get_scr {G : GD} {ns : List Int} : getW G (.scr ns) (.int i) S = (atI ns i).map fun n => (.int n, S) := rfl
@[simp] theorem get_str {G : GD} : getW G (.str a) (.int i) S = if a.length ≤ sizeLine then (atI a.cps.toList i).map fun c => (chrW c, S) else none := rfl
@[simp] theorem cut_tup {lo hi : Option Int} : cutW m (.tup xs) lo hi S = some (.tup (cutL xs lo hi), S) := rfl
@[simp] theorem cut_lstv {lo hi : Option Int} : cutW m (.lst xs) lo hi S = some (mkL m (cutL xs lo hi) S) := rfl
@[simp] theorem cut_str {lo hi : Option Int} : cutW m (.str a) lo hi S = if a.length ≤ sizeLine then some (.str (cutS a lo hi), S) else none := rfl
@[simp] theorem in_tup {G : GD} {vs : List V} {v : V} (h1 : scV x = some v) (h2 : scVs xs = some vs) : inW G x (.tup xs) S = some (.bl (inV v vs), S) := by simp [inW, inB, h1, h2]
@[simp] theorem iter_tup : iterW (.tup xs) S = some (itT xs) := rfl
@[simp] theorem iter_lst : iterW (.lst xs) S = some (itT xs) := rfl
@[simp] theorem iter_str : iterW (.str a) S = some (itT (a.cps.toList.map chrW)) := rfl
@[simp] theorem join_lst {zs : List Str} (h : strsW ys = some zs) : joinM (.str a) [.lst ys] S = if (zs.map (·.length)).sum + zs.length * a.length ≤ 16777216 then some (.str (Txt.join a zs), S) else none := by simp [joinM, h]
@[simp] theorem join_tup {zs : List Str} (h : strsW ys = some zs) : joinM (.str a) [.tup ys] S = if (zs.map (·.length)).sum + zs.length * a.length ≤ 16777216 then some (.str (Txt.join a zs), S) else none := by simp [joinM, h]
end

/-! ### branches -/
section
variable {α β : Type} {S S' : Store} {p : Prop} [Decidable p] {b c : Bool}
@[simp] theorem bind_ite {r1 r2 : R α} {k : α → Store → R β} : (if p then r1 else r2).bind k = if p then r1.bind k else r2.bind k := by split <;> rfl
@[simp] theorem thn_ite {r1 r2 : R α} {e : En} {k : α → Store → RS} : (if p then r1 else r2).thn e k = if p then r1.thn e k else r2.thn e k := by split <;> rfl
@[simp] theorem seq_ite {r1 r2 : RS} {k : SM} : (if p then r1 else r2).seq k = if p then r1.seq k else r2.seq k := by split <;> rfl
@[simp] theorem lift_ite {r1 r2 : Option (W × Store)} : lift (if p then r1 else r2) = if p then lift r1 else lift r2 := by split <;> rfl
@[simp] theorem ok_and {d : Bool} : (if p then R.ok (W.bl d) S else R.ok (W.bl false) S) = R.ok (.bl (decide p && d)) S := by by_cases h : p <;> simp [h]
@[simp] theorem ok_or {d : Bool} : (if p then R.ok (W.bl true) S else R.ok (W.bl d) S) = R.ok (.bl (decide p || d)) S := by by_cases h : p <;> simp [h]
@[simp] theorem ok_nand {d : Bool} : (if p then R.ok (W.bl false) S else R.ok (W.bl d) S) = R.ok (.bl (!decide p && d)) S := by by_cases h : p <;> simp [h]
@[simp] theorem ok_nor {d : Bool} : (if p then R.ok (W.bl d) S else R.ok (W.bl true) S) = R.ok (.bl (!decide p || d)) S := by by_cases h : p <;> simp [h]
@[simp] theorem okb_nand {d : Bool} : (if p then R.ok false S else R.ok d S) = R.ok (!decide p && d) S := by by_cases h : p <;> simp [h]
@[simp] theorem okb_nor {d : Bool} : (if p then R.ok d S else R.ok true S) = R.ok (!decide p || d) S := by by_cases h : p <;> simp [h]
@[simp] theorem okb_and {d : Bool} : (if p then R.ok d S else R.ok false S) = R.ok (decide p && d) S := by by_cases h : p <;> simp [h]
@[simp] theorem okb_or {d : Bool} : (if p then R.ok true S else R.ok d S) = R.ok (decide p || d) S := by by_cases h : p <;> simp [h]
@[simp] theorem seq_seq {r : RS} {a b : SM} : (r.seq a).seq b = r.seq (sSeq a b) := by cases r <;> rfl
/-- a def's end -/
def RS.fin (S : Store) (r : RS) : R W := match r with
  | .nx _ S1 => cutR S .non S1
  | .ret w S1 => cutR S w S1
  | .exc x _ S1 => cutX S x S1
  | _ => .bad
@[simp] theorem fin_nx {e : En} : RS.fin S (.nx e S') = cutR S .non S' := rfl
@[simp] theorem fin_ret {w : W} : RS.fin S (.ret w S') = cutR S w S' := rfl
@[simp] theorem fin_exc {x : Exn} {e : En} : RS.fin S (.exc x e S') = cutX S x S' := rfl
@[simp] theorem fin_bad : RS.fin S .bad = .bad := rfl
@[simp] theorem fin_ite {r1 r2 : RS} : RS.fin S (if p then r1 else r2) = if p then RS.fin S r1 else RS.fin S r2 := by split <;> rfl
theorem run_fin {ps n : Nat} {b : SM} {ws : List W} (h : ws.length = ps) : runDef ps n b ws S = RS.fin S (b (startE n ws) S) := by
  unfold runDef
  rw [if_pos h]
  rfl
@[simp] theorem run1 {n : Nat} {b : SM} {w1 : W} : runDef 1 n b [w1] S = RS.fin S (b (startE n [w1]) S) := run_fin rfl
@[simp] theorem run0 {n : Nat} {b : SM} : runDef 0 n b [] S = RS.fin S (b (startE n []) S) := run_fin rfl
@[simp] theorem run2 {n : Nat} {b : SM} {w1 w2 : W} : runDef 2 n b [w1, w2] S = RS.fin S (b (startE n [w1, w2]) S) := run_fin rfl
@[simp] theorem run3 {n : Nat} {b : SM} {w1 w2 w3 : W} : runDef 3 n b [w1, w2, w3] S = RS.fin S (b (startE n [w1, w2, w3]) S) := run_fin rfl
@[simp] theorem run4 {n : Nat} {b : SM} {w1 w2 w3 w4 : W} : runDef 4 n b [w1, w2, w3, w4] S = RS.fin S (b (startE n [w1, w2, w3, w4]) S) := run_fin rfl
@[simp] theorem run5 {n : Nat} {b : SM} {w1 w2 w3 w4 w5 : W} : runDef 5 n b [w1, w2, w3, w4, w5] S = RS.fin S (b (startE n [w1, w2, w3, w4, w5]) S) := run_fin rfl
end

/-! ### types -/
section
variable {S : Store} {x : W} {n : String} {cs : List W}
@[simp] theorem isi_ty : isiN [x, .ty n] S = (tyName x S).bind fun a => if n ∈ tyNs then some (.bl (isTy a n), S) else none := by
  simp only [isiN]
  cases tyName x S <;> rfl
@[simp] theorem isi_tup : isiN [x, .tup cs] S = (tyName x S).bind fun a => (tysW cs).map fun ns => (.bl (ns.any (isTy a)), S) := by
  simp only [isiN]
  cases tyName x S <;> rfl
@[simp] theorem tyn_non : tyName .non S = some "NoneType" := rfl
@[simp] theorem tyn_bl {b : Bool} : tyName (.bl b) S = some "bool" := rfl
@[simp] theorem tyn_int {i : Int} : tyName (.int i) S = some "int" := rfl
@[simp] theorem tyn_str {a : Str} : tyName (.str a) S = some "str" := rfl
@[simp] theorem tyn_tup {xs : List W} : tyName (.tup xs) S = some "tuple" := rfl
@[simp] theorem tyn_lst {xs : List W} : tyName (.lst xs) S = some "list" := rfl
@[simp] theorem tyn_dic {ks : List Key} {xs : List W} : tyName (.dic ks xs) S = some "dict" := rfl
@[simp] theorem tyNs_eq : tyNs = ["int", "str", "list", "tuple", "dict", "bool"] := rfl
@[simp] theorem isTy_ap {a n : String} : isTy a n = (a == n || (a == "bool" && n == "int")) := rfl
@[simp] theorem tysW_nil : tysW [] = some [] := rfl
@[simp] theorem tysW_cons : tysW (.ty n :: cs) = if n ∈ tyNs then (tysW cs).map fun ns => n :: ns else none := rfl
@[simp] theorem startE0 {k : Nat} : startE k [] = List.replicate k none := by simp [startE]
@[simp] theorem startE_cons {k : Nat} {w : W} {ws : List W} : startE (k + 1) (w :: ws) = some w :: startE k ws := by simp [startE]
end

/-! ### a def's end -/
/-- what stood at the entry names nothing newer -/
abbrev Clo (S : Store) : Prop := okS S.length S = true
mutual
theorem mapR_low {n : Nat} {f : Nat → Option W} (hf : ∀ a, a < n → f a = some (.ref a)) : ∀ {w : W}, lowW n w = true → mapR f w = some w
  | .non, _ => rfl
  | .bl _, _ => rfl
  | .int _, _ => rfl
  | .str _, _ => rfl
  | .ty _, _ => rfl
  | .glo _, _ => rfl
  | .scr _, _ => rfl
  | .siz _, _ => rfl
  | .ref a, h => by simp only [lowW, decide_eq_true_eq] at h; simp only [mapR]; exact hf a h
  | .tup ws, h => by simp only [lowW] at h; simp only [mapR, mapRs_low hf h]; rfl
  | .lst ws, h => by simp only [lowW] at h; simp only [mapR, mapRs_low hf h]; rfl
  | .dic ks ws, h => by simp only [lowW] at h; simp only [mapR, mapRs_low hf h]; rfl
theorem mapRs_low {n : Nat} {f : Nat → Option W} (hf : ∀ a, a < n → f a = some (.ref a)) : ∀ {ws : List W}, lowWs n ws = true → mapRs f ws = some ws
  | [], _ => rfl
  | w :: ws, h => by
    simp only [lowWs, Bool.and_eq_true] at h
    simp only [mapRs, mapR_low hf h.1, mapRs_low hf h.2]
end
theorem fzD_low {n : Nat} {S : Store} {w : W} (h : lowW n w = true) : ∀ d, fzD n S d w = some w
  | 0 => by simp only [fzD, h, if_true]
  | d + 1 => by simp only [fzD]; exact mapR_low (fun a ha => by rw [if_pos ha]) h
theorem fzL_low {n : Nat} {S : Store} {d : Nat} : ∀ {ws : List W}, lowWs n ws = true → fzL (fzD n S d) ws = some ws
  | [], _ => rfl
  | w :: ws, h => by
    simp only [lowWs, Bool.and_eq_true] at h
    simp only [fzL, fzD_low h.1, fzL_low h.2]
theorem fzD_ref {n d a : Nat} {S : Store} {ws : List W} (ha : ¬ a < n) (e : S[a]? = some (.lst ws)) (hw : lowWs n ws = true) : fzD n S (d + 1) (.ref a) = some (.lst ws) := by
  simp only [fzD, mapR]
  rw [if_neg ha, e]
  dsimp only
  rw [fzL_low hw]
  rfl
theorem okS_app {S J : Store} : okS S.length (S ++ J) = okS S.length S := by simp [okS]
/-- a def's end: a result that names nothing new -/
theorem cut_low {S J : Store} {w : W} (hS : Clo S) (hw : lowW S.length w = true) : cutR S w (S ++ J) = .ok w S := by
  unfold cutR
  rw [fzD_low hw]
  simp only [okS_app, hS, if_true, List.take_left]
theorem cut_self {S : Store} {w : W} (hS : Clo S) (hw : lowW S.length w = true) : cutR S w S = .ok w S := by
  have := cut_low (J := []) hS hw
  simpa using this
/-- .. a list that was made here -/
theorem cut_lst {S J : Store} {ws : List W} (hS : Clo S) (hw : lowWs S.length ws = true) : cutR S (.ref S.length) (S ++ .lst ws :: J) = .ok (.lst ws) S := by
  unfold cutR
  rw [fzD_ref (ws := ws) (Nat.lt_irrefl _) (by simp) hw]
  simp only [okS_app, hS, if_true, List.take_left]
@[simp] theorem cut_bl {S J : Store} {b : Bool} (hS : okS S.length S = true) : cutR S (.bl b) (S ++ J) = .ok (.bl b) S := cut_low hS rfl
@[simp] theorem cut_bl0 {S : Store} {b : Bool} (hS : okS S.length S = true) : cutR S (.bl b) S = .ok (.bl b) S := cut_self hS rfl
@[simp] theorem cut_int {S J : Store} {b : Int} (hS : okS S.length S = true) : cutR S (.int b) (S ++ J) = .ok (.int b) S := cut_low hS rfl
@[simp] theorem cut_int0 {S : Store} {b : Int} (hS : okS S.length S = true) : cutR S (.int b) S = .ok (.int b) S := cut_self hS rfl
@[simp] theorem cut_strv {S J : Store} {b : Str} (hS : okS S.length S = true) : cutR S (.str b) (S ++ J) = .ok (.str b) S := cut_low hS rfl
@[simp] theorem cut_str0 {S : Store} {b : Str} (hS : okS S.length S = true) : cutR S (.str b) S = .ok (.str b) S := cut_self hS rfl
@[simp] theorem cut_non0 {S : Store} (hS : okS S.length S = true) : cutR S .non S = .ok .non S := cut_self hS rfl

/-! ### for -/
theorem forN_all {v : Nat} {b : SM} {ws : List W} {e : En} {S : Store} {p : W → Bool} {r : W} (hb : ∀ w, w ∈ ws → b (e.set v (some w)) S = if p w = true then .nx (e.set v (some w)) S else .ret r S) :
    ∀ n i y, ws.length < n + i → i ≤ ws.length → ∃ x, forN (itT ws) (gVar v) b n i (e.set v y) S = if (ws.drop i).all p = true then .nx (e.set v x) S else .ret r S
  | 0, i, y, h, h2 => by omega
  | n + 1, i, y, h, h2 => by
    simp only [forN, itT]
    cases e1 : ws[i]? with
    | none =>
      have := List.getElem?_eq_none_iff.mp e1
      refine ⟨y, ?_⟩
      rw [List.drop_eq_nil_of_le this]
      simp
    | some w =>
      have hi := (List.getElem?_eq_some_iff.mp e1)
      have hi1 := hi.1
      have hd : ws.drop i = w :: ws.drop (i + 1) := by
        rw [List.drop_eq_getElem_cons hi.1, hi.2]
      dsimp only [gVar]
      rw [List.set_set, hb w (List.mem_of_getElem? e1), hd]
      by_cases hp : p w = true
      · rw [if_pos hp]
        obtain ⟨x, hx⟩ := forN_all hb n (i + 1) (some w) (by omega) (by omega)
        refine ⟨x, ?_⟩
        dsimp only
        rw [hx, List.all_cons, hp, Bool.true_and]
      · rw [if_neg hp]
        refine ⟨y, ?_⟩
        rw [List.all_cons]
        have hp' : p w = false := by simpa using hp
        simp [hp']
/-- for x in xs: if not p(x): return r -/
theorem sFor_all {v : Nat} {b : SM} {ws : List W} {e : En} {S : Store} {p : W → Bool} {r : W} {it : IM} (hi : it e S = .ok (itT ws) S) (hb : ∀ w, w ∈ ws → b (e.set v (some w)) S = if p w = true then .nx (e.set v (some w)) S else .ret r S)
    (hl : ws.length < fuel) (hv : v < e.length) : ∃ x, sFor it (gVar v) b e S = if ws.all p = true then .nx (e.set v x) S else .ret r S := by
  obtain ⟨x, hx⟩ := forN_all hb fuel 0 (e[v]) (by simpa using hl) (Nat.zero_le _)
  refine ⟨x, ?_⟩
  simp only [sFor, hi, R.thn_ok]
  rw [List.set_getElem_self, List.drop_zero] at hx
  exact hx
/-- THE RULE for a loop over what is walked: I at the turns, P at the end -/
theorem forN_inv {J : ItM} {g : GM} {b : SM} (I : Nat → En → Store → Prop) (P : RS → Prop) (N : Nat) (hN : ∀ i e S, I i e S → i ≤ N)
    (step : ∀ i e S, I i e S → (J i S = some none ∧ P (.nx e S)) ∨ ∃ w e1 S1, J i S = some (some w) ∧ g w e S = some (e1, S1) ∧ match b e1 S1 with
      | .nx e2 S2 => I (i + 1) e2 S2
      | .cnt e2 S2 => I (i + 1) e2 S2
      | .brk e2 S2 => P (.nx e2 S2)
      | r => P r) : ∀ n i e S, N < n + i → I i e S → P (forN J g b n i e S)
  | 0, i, e, S, h, hI => by have := hN i e S hI; omega
  | n + 1, i, e, S, h, hI => by
    simp only [forN]
    rcases step i e S hI with ⟨h1, h2⟩ | ⟨w, e1, S1, h1, h2, h3⟩
    · rw [h1]; exact h2
    · rw [h1]
      dsimp only
      rw [h2]
      dsimp only
      cases hb : b e1 S1 with
      | nx e2 S2 => rw [hb] at h3; exact forN_inv I P N hN step n (i + 1) e2 S2 (by omega) h3
      | cnt e2 S2 => rw [hb] at h3; exact forN_inv I P N hN step n (i + 1) e2 S2 (by omega) h3
      | brk e2 S2 => rw [hb] at h3; exact h3
      | ret w S2 => rw [hb] at h3; exact h3
      | exc x e2 S2 => rw [hb] at h3; exact h3
      | bad => rw [hb] at h3; exact h3
theorem sFor_inv {it : IM} {J : ItM} {g : GM} {b : SM} {e : En} {S : Store} (I : Nat → En → Store → Prop) (P : RS → Prop) (N : Nat) (hf : N < fuel) (hi : it e S = .ok J S) (h0 : I 0 e S) (hN : ∀ i e S, I i e S → i ≤ N)
    (step : ∀ i e S, I i e S → (J i S = some none ∧ P (.nx e S)) ∨ ∃ w e1 S1, J i S = some (some w) ∧ g w e S = some (e1, S1) ∧ match b e1 S1 with
      | .nx e2 S2 => I (i + 1) e2 S2
      | .cnt e2 S2 => I (i + 1) e2 S2
      | .brk e2 S2 => P (.nx e2 S2)
      | r => P r) : P (sFor it g b e S) := by
  simp only [sFor, hi, R.thn_ok]
  exact forN_inv I P N hN step fuel 0 e S (by simpa using hf) h0
theorem whileN_inv {c : TM} {b : SM} (I : Nat → En → Store → Prop) (P : RS → Prop)
    (step : ∀ m e S, I m e S → ∃ k S1, c e S = .ok k S1 ∧ ((k = false ∧ P (.nx e S1)) ∨ (k = true ∧ ∃ m', m = m' + 1 ∧ match b e S1 with
      | .nx e2 S2 => I m' e2 S2
      | .cnt e2 S2 => I m' e2 S2
      | .brk e2 S2 => P (.nx e2 S2)
      | r => P r))) : ∀ n m e S, m < n → I m e S → P (whileN c b n e S)
  | 0, m, e, S, h, hI => by omega
  | n + 1, m, e, S, h, hI => by
    simp only [whileN]
    obtain ⟨k, S1, h1, h2⟩ := step m e S hI
    rw [h1]
    dsimp only
    rcases h2 with ⟨rfl, h2⟩ | ⟨rfl, m', rfl, h3⟩
    · rw [if_neg Bool.false_ne_true]; exact h2
    · rw [if_pos rfl]
      cases hb : b e S1 with
      | nx e2 S2 => rw [hb] at h3; exact whileN_inv I P step n m' e2 S2 (by omega) h3
      | cnt e2 S2 => rw [hb] at h3; exact whileN_inv I P step n m' e2 S2 (by omega) h3
      | brk e2 S2 => rw [hb] at h3; exact h3
      | ret w S2 => rw [hb] at h3; exact h3
      | exc x e2 S2 => rw [hb] at h3; exact h3
      | bad => rw [hb] at h3; exact h3
theorem sWhile_inv {c : TM} {b : SM} {e : En} {S : Store} (I : Nat → En → Store → Prop) (P : RS → Prop) (m : Nat) (hm : m < fuel) (h0 : I m e S)
    (step : ∀ m e S, I m e S → ∃ k S1, c e S = .ok k S1 ∧ ((k = false ∧ P (.nx e S1)) ∨ (k = true ∧ ∃ m', m = m' + 1 ∧ match b e S1 with
      | .nx e2 S2 => I m' e2 S2
      | .cnt e2 S2 => I m' e2 S2
      | .brk e2 S2 => P (.nx e2 S2)
      | r => P r))) : P (sWhile c b e S) := whileN_inv I P step fuel m e S hm h0
/-! ### comprehensions -/
theorem lcN_inv {J : ItM} {g : GM} {t : TM} {a : EM} {e0 : En} (I : Nat → List W → Store → Prop) (N : Nat) (hN : ∀ i acc S, I i acc S → i ≤ N)
    (step : ∀ i acc S, I i acc S → (J i S = some none ∧ i = N) ∨ ∃ w e1 S1 k S2, J i S = some (some w) ∧ g w e0 S = some (e1, S1) ∧ t e1 S1 = .ok k S2 ∧ (k = false ∧ I (i + 1) acc S2 ∨ k = true ∧ ∃ x S3, a e1 S2 = .ok x S3 ∧ acc.length < sizeLine ∧ I (i + 1) (acc ++ [x]) S3)) :
    ∀ n i acc S, N < n + i → I i acc S → ∃ xs S', lcN J g t a e0 n i acc S = .ok xs S' ∧ I N xs S'
  | 0, i, acc, S, h, hI => by have := hN i acc S hI; omega
  | n + 1, i, acc, S, h, hI => by
    simp only [lcN]
    rcases step i acc S hI with ⟨h1, h2⟩ | ⟨w, e1, S1, k, S2, h1, h2, h3, h4⟩
    · rw [h1]; subst h2; exact ⟨acc, S, rfl, hI⟩
    · rw [h1]
      dsimp only
      rw [h2]
      dsimp only
      rw [h3]
      simp only [R.bind_ok]
      rcases h4 with ⟨rfl, h4⟩ | ⟨rfl, x, S3, h4, h5, h6⟩
      · rw [if_neg Bool.false_ne_true]
        exact lcN_inv I N hN step n (i + 1) acc S2 (by omega) h4
      · rw [if_pos rfl, h4]
        simp only [R.bind_ok]
        rw [if_pos h5]
        exact lcN_inv I N hN step n (i + 1) (acc ++ [x]) S3 (by omega) h6
theorem lc_inv {m : Bool} {it : IM} {J : ItM} {own : List Nat} {g : GM} {t : TM} {a : EM} {e : En} {S : Store} (I : Nat → List W → Store → Prop) (N : Nat) (hf : N < fuel) (hi : it e S = .ok J S) (h0 : I 0 [] S) (hN : ∀ i acc S, I i acc S → i ≤ N)
    (step : ∀ i acc S, I i acc S → (J i S = some none ∧ i = N) ∨ ∃ w e1 S1 k S2, J i S = some (some w) ∧ g w (wipeE e own) S = some (e1, S1) ∧ t e1 S1 = .ok k S2 ∧ (k = false ∧ I (i + 1) acc S2 ∨ k = true ∧ ∃ x S3, a e1 S2 = .ok x S3 ∧ acc.length < sizeLine ∧ I (i + 1) (acc ++ [x]) S3)) :
    ∃ xs S', eLc m it own g t a e S = .ok (mkL m xs S').1 (mkL m xs S').2 ∧ I N xs S' := by
  obtain ⟨xs, S', h1, h2⟩ := lcN_inv I N hN step fuel 0 [] S (by simpa using hf) h0
  refine ⟨xs, S', ?_, h2⟩
  simp only [eLc, hi, R.bind_ok, h1, R.noexc]
/-- [f(x) for x in xs] -/
theorem lc_map {m : Bool} {it : IM} {own : List Nat} {v : Nat} {a : EM} {e : En} {S : Store} {ws : List W} {f : W → W} (hi : it e S = .ok (itT ws) S) (hl : ws.length ≤ sizeLine) (ha : ∀ w, w ∈ ws → a ((wipeE e own).set v (some w)) S = .ok (f w) S) :
    eLc m it own (gVar v) tYesM a e S = .ok (mkL m (ws.map f) S).1 (mkL m (ws.map f) S).2 := by
  have hf : ws.length < fuel := Nat.lt_of_le_of_lt hl fuel_line
  obtain ⟨xs, S', h1, h2, h3⟩ := lc_inv (m := m) (it := it) (own := own) (g := gVar v) (t := tYesM) (a := a) (e := e) (S := S) (fun i acc S' => S' = S ∧ i ≤ ws.length ∧ acc = (ws.take i).map f) ws.length hf hi ⟨rfl, Nat.zero_le _, by simp⟩ (fun i acc S h => h.2.1) (by
    rintro i acc S' ⟨rfl, hi, rfl⟩
    cases e1 : ws[i]? with
    | none =>
      have := List.getElem?_eq_none_iff.mp e1
      exact .inl ⟨by simp [itT, e1], by omega⟩
    | some w =>
      have hlt := (List.getElem?_eq_some_iff.mp e1).1
      refine .inr ⟨w, _, _, true, _, by simp [itT, e1], rfl, rfl, .inr ⟨rfl, f w, _, ha w (List.mem_of_getElem? e1), ?_, rfl, hlt, ?_⟩⟩
      · rw [List.length_map, List.length_take]; omega
      · rw [List.take_add_one, e1]; simp)
  obtain ⟨rfl, _, rfl⟩ := (⟨h2, h3⟩ : S' = S ∧ ws.length ≤ ws.length ∧ xs = (ws.take ws.length).map f)
  rw [h1, List.take_length]
/-- [f(x) for x in xs if p(x)] -/
theorem lc_filter {m : Bool} {it : IM} {own : List Nat} {v : Nat} {t : TM} {a : EM} {e : En} {S : Store} {ws : List W} {p : W → Bool} {f : W → W} (hi : it e S = .ok (itT ws) S) (hl : ws.length ≤ sizeLine) (ht : ∀ w, w ∈ ws → t ((wipeE e own).set v (some w)) S = .ok (p w) S) (ha : ∀ w, w ∈ ws → p w = true → a ((wipeE e own).set v (some w)) S = .ok (f w) S) :
    eLc m it own (gVar v) t a e S = .ok (mkL m ((ws.filter p).map f) S).1 (mkL m ((ws.filter p).map f) S).2 := by
  have hf : ws.length < fuel := Nat.lt_of_le_of_lt hl fuel_line
  obtain ⟨xs, S', h1, h2, h3⟩ := lc_inv (m := m) (it := it) (own := own) (g := gVar v) (t := t) (a := a) (e := e) (S := S) (fun i acc S' => S' = S ∧ i ≤ ws.length ∧ acc = ((ws.take i).filter p).map f) ws.length hf hi ⟨rfl, Nat.zero_le _, by simp⟩ (fun i acc S h => h.2.1) (by
    rintro i acc S' ⟨rfl, hi, rfl⟩
    cases e1 : ws[i]? with
    | none =>
      have := List.getElem?_eq_none_iff.mp e1
      exact .inl ⟨by simp [itT, e1], by omega⟩
    | some w =>
      have hlt := (List.getElem?_eq_some_iff.mp e1).1
      have hm := List.mem_of_getElem? e1
      refine .inr ⟨w, _, _, p w, _, by simp [itT, e1], rfl, ht w hm, ?_⟩
      cases hp : p w with
      | false => refine .inl ⟨rfl, rfl, hlt, ?_⟩; rw [List.take_add_one, e1]; simp [hp]
      | true =>
        refine .inr ⟨rfl, f w, _, ha w hm hp, ?_, rfl, hlt, ?_⟩
        · rw [List.length_map]
          have := List.length_filter_le p (ws.take i)
          rw [List.length_take] at this; omega
        · rw [List.take_add_one, e1]; simp [hp])
  obtain ⟨rfl, _, rfl⟩ := (⟨h2, h3⟩ : S' = S ∧ ws.length ≤ ws.length ∧ xs = ((ws.take ws.length).filter p).map f)
  rw [h1, List.take_length]
/-- a test of a sign -/
def chrB (f : Nat → Bool) : W → Bool
  | .str z => f (z.cps.getD 0 0)
  | _ => false
@[simp] theorem chrB_chr {f : Nat → Bool} {c : Nat} : chrB f (chrW c) = f c := rfl
theorem all_chr {f : Nat → Bool} {cs : List Nat} : (cs.map chrW).all (chrB f) = cs.all f := by
  rw [List.all_map]; rfl
theorem len_cps {x : Str} : x.cps.toList.length = x.length := rfl
/-- for c in text: if not p(c): return r -/
theorem sFor_chr {v : Nat} {b : SM} {x : Str} {e : En} {S : Store} {p : Nat → Bool} {r : W} {it : IM} (hi : it e S = .ok (itT (x.cps.toList.map chrW)) S)
    (hb : ∀ c, c ∈ x.cps.toList → b (e.set v (some (chrW c))) S = if p c = true then .nx (e.set v (some (chrW c))) S else .ret r S)
    (hl : x.length ≤ sizeLine) (hv : v < e.length) : ∃ y, sFor it (gVar v) b e S = if x.cps.toList.all p = true then .nx (e.set v y) S else .ret r S := by
  obtain ⟨y, hy⟩ := sFor_all (p := chrB p) (r := r) (b := b) (v := v) hi (fun w hw => by
    obtain ⟨c, hc, rfl⟩ := List.mem_map.mp hw
    rw [chrB_chr]
    exact hb c hc) (by rw [List.length_map, len_cps]; exact Nat.lt_of_le_of_lt hl fuel_line) hv
  rw [all_chr] at hy
  exact ⟨y, hy⟩
/-! ### a loop, then the rest of the def -/
section
variable {S0 S : Store} {e : En} {k : SM} {X : R W}
theorem fin_inv {it : IM} {J : ItM} {g : GM} {b : SM} (I : Nat → En → Store → Prop) (N : Nat) (hf : N < fuel) (hi : it e S = .ok J S) (h0 : I 0 e S) (hN : ∀ i e S, I i e S → i ≤ N)
    (step : ∀ i e S, I i e S → (J i S = some none ∧ RS.fin S0 (k e S) = X) ∨ ∃ w e1 S1, J i S = some (some w) ∧ g w e S = some (e1, S1) ∧ match b e1 S1 with
      | .nx e2 S2 => I (i + 1) e2 S2
      | .cnt e2 S2 => I (i + 1) e2 S2
      | .brk e2 S2 => RS.fin S0 (k e2 S2) = X
      | r => RS.fin S0 r = X) : RS.fin S0 ((sFor it g b e S).seq k) = X :=
  sFor_inv (P := fun r => RS.fin S0 (r.seq k) = X) I N hf hi h0 hN fun i e S h => by
    rcases step i e S h with ⟨h1, h2⟩ | ⟨w, e1, S1, h1, h2, h3⟩
    · exact .inl ⟨h1, h2⟩
    · refine .inr ⟨w, e1, S1, h1, h2, ?_⟩
      cases hb : b e1 S1 <;> (rw [hb] at h3; exact h3)
theorem fin_all {v : Nat} {b : SM} {ws : List W} {it : IM} (p : W → Bool) (r : W) (hi : it e S = .ok (itT ws) S) (hb : ∀ w, w ∈ ws → b (e.set v (some w)) S = if p w = true then .nx (e.set v (some w)) S else .ret r S)
    (hl : ws.length ≤ sizeLine) (hv : v < e.length) (h1 : ws.all p = true → ∀ y, RS.fin S0 (k (e.set v y) S) = X) (h2 : ws.all p = false → cutR S0 r S = X) : RS.fin S0 ((sFor it (gVar v) b e S).seq k) = X := by
  obtain ⟨y, hy⟩ := sFor_all hi hb (Nat.lt_of_le_of_lt hl fuel_line) hv
  rw [hy]
  cases h : ws.all p with
  | true => rw [if_pos rfl]; exact h1 h y
  | false => rw [if_neg Bool.false_ne_true]; exact h2 h
theorem fin_chr {v : Nat} {b : SM} {x : Str} {it : IM} (p : Nat → Bool) (r : W) (hi : it e S = .ok (itT (x.cps.toList.map chrW)) S) (hb : ∀ c, c ∈ x.cps.toList → b (e.set v (some (chrW c))) S = if p c = true then .nx (e.set v (some (chrW c))) S else .ret r S)
    (hl : x.length ≤ sizeLine) (hv : v < e.length) (h1 : x.cps.toList.all p = true → ∀ y, RS.fin S0 (k (e.set v y) S) = X) (h2 : x.cps.toList.all p = false → cutR S0 r S = X) : RS.fin S0 ((sFor it (gVar v) b e S).seq k) = X := by
  obtain ⟨y, hy⟩ := sFor_chr hi hb hl hv
  rw [hy]
  cases h : x.cps.toList.all p with
  | true => rw [if_pos rfl]; exact h1 h y
  | false => rw [if_neg Bool.false_ne_true]; exact h2 h
theorem fin_while {c : TM} {b : SM} (I : Nat → En → Store → Prop) (m : Nat) (hm : m < fuel) (h0 : I m e S)
    (step : ∀ m e S, I m e S → ∃ q S1, c e S = .ok q S1 ∧ ((q = false ∧ RS.fin S0 (k e S1) = X) ∨ (q = true ∧ ∃ m', m = m' + 1 ∧ match b e S1 with
      | .nx e2 S2 => I m' e2 S2
      | .cnt e2 S2 => I m' e2 S2
      | .brk e2 S2 => RS.fin S0 (k e2 S2) = X
      | r => RS.fin S0 r = X))) : RS.fin S0 ((sWhile c b e S).seq k) = X :=
  sWhile_inv (P := fun r => RS.fin S0 (r.seq k) = X) I m hm h0 fun m e S h => by
    obtain ⟨q, S1, h1, h2⟩ := step m e S h
    refine ⟨q, S1, h1, ?_⟩
    rcases h2 with h2 | ⟨h2, m', h3, h4⟩
    · exact .inl h2
    · refine .inr ⟨h2, m', h3, ?_⟩
      cases hb : b e S1 <;> (rw [hb] at h4; exact h4)
end
section
variable {S : Store} {c : Nat} {b : Str} {m : Bool}
@[simp] theorem eq_chr : eqW (chrW c) (.str b) S = some (.bl (decide ((⟨#[c]⟩ : Str) = b)), S) := by simp [chrW]
@[simp] theorem in_chr {G : GD} : inW G (chrW c) (.str b) S = some (.bl (decide (c ∈ b.cps.toList)), S) := by simp [chrW, inW, inB]
@[simp] theorem chr_inj {c' : Nat} : ((⟨#[c]⟩ : Str) = ⟨#[c']⟩) ↔ c = c' := by simp
theorem atI_nn {α : Type} {xs : List α} {i : Nat} : atI xs (i : Int) = xs[i]? := by
  cases e : xs[i]? with
  | some v => exact atI_nat e
  | none =>
    have h := List.getElem?_eq_none_iff.mp e
    unfold atI ixN
    rw [if_pos (by omega), if_neg (by omega)]
    rfl
@[simp] theorem atI_n {α : Type} {xs : List α} {i : Nat} : atI xs (i : Int) = xs[i]? := atI_nn
@[simp] theorem atI_0 {α : Type} {xs : List α} : atI xs 0 = xs[0]? := atI_nn (i := 0)
@[simp] theorem atI_1 {α : Type} {xs : List α} : atI xs 1 = xs[1]? := atI_nn (i := 1)
@[simp] theorem atI_2 {α : Type} {xs : List α} : atI xs 2 = xs[2]? := atI_nn (i := 2)
@[simp] theorem atI_3 {α : Type} {xs : List α} : atI xs 3 = xs[3]? := atI_nn (i := 3)
@[simp] theorem atI_s {α : Type} {xs : List α} {i : Nat} : atI xs ((i : Int) + 1) = xs[i + 1]? := atI_nn (i := i + 1)
end
theorem big_cast : big = ((4611686018427387904 : Nat) : Int) := big_def
theorem big_nat {n : Nat} (h : n ≤ 16777216) : -big ≤ (n : Int) ∧ (n : Int) < big := by
  rw [big_cast]
  exact ⟨Int.le_trans (Int.neg_nonpos_of_nonneg (Int.natCast_nonneg _)) (Int.natCast_nonneg n), Int.ofNat_lt.mpr (Nat.lt_of_le_of_lt h (by decide))⟩
theorem rngJ_nat0 {m n : Int} {S : Store} (h : -big ≤ m ∧ m < big ∧ -big ≤ n ∧ n < big) : rngJ m n S = .ok (itR m (n - m).toNat) S := by
  unfold rngJ
  exact if_pos h
theorem rngJ_nat {m n : Nat} {S : Store} (hm : m ≤ 16777216) (hn : n ≤ 16777216) : rngJ m n S = .ok (itR m (n - m)) S := by
  rw [rngJ_nat0 ⟨(big_nat hm).1, (big_nat hm).2, (big_nat hn).1, (big_nat hn).2⟩]
  have : ((n : Int) - m).toNat = n - m := by omega
  rw [this]
theorem rngJ_nat1 {n : Nat} {S : Store} (hn : n ≤ 16777216) : rngJ 0 n S = .ok (itR 0 n) S := by
  have h := rngJ_nat (m := 0) (n := n) (S := S) (Nat.zero_le _) hn
  rw [Int.natCast_zero, Nat.sub_zero] at h
  exact h
theorem iR_e {a : EM} {e : En} {S S1 : Store} {n : Int} (h : a e S = .ok (.int n) S1) : iRange1 a e S = rngJ 0 n S1 := by
  unfold iRange1
  rw [h, R.bind_ok]
theorem iRange1_ok {a : EM} {e : En} {S S1 : Store} {n : Nat} (h : a e S = .ok (.int n) S1) (hn : n ≤ 16777216) : iRange1 a e S = .ok (itR 0 n) S1 := (iR_e h).trans (rngJ_nat1 hn)
theorem iR_e2 {a b : EM} {e : En} {S S1 S2 : Store} {m n : Int} (h : a e S = .ok (.int m) S1) (h2 : b e S1 = .ok (.int n) S2) : iRange2 a b e S = rngJ m n S2 := by
  unfold iRange2
  rw [h, R.bind_ok, h2, R.bind_ok]
theorem iRange2_ok {a b : EM} {e : En} {S S1 S2 : Store} {m n : Nat} (h : a e S = .ok (.int m) S1) (h2 : b e S1 = .ok (.int n) S2) (hm : m ≤ 16777216) (hn : n ≤ 16777216) : iRange2 a b e S = .ok (itR m (n - m)) S2 := (iR_e2 h h2).trans (rngJ_nat hm hn)
theorem iE_ok {a : EM} {e : En} {S S1 : Store} {w : W} {J : ItM} (h : a e S = .ok w S1) (hw : iterW w S1 = some J) : iE a e S = .ok J S1 := by
  simp only [iE, h, R.bind_ok, hw]
@[simp] theorem itR_lt {lo : Int} {n i : Nat} {S : Store} (h : i < n) : itR lo n i S = some (some (.int (lo + i))) := by simp [itR, h]
theorem itR_ge {lo : Int} {n i : Nat} {S : Store} (h : ¬ i < n) : itR lo n i S = some none := by simp [itR, h]
/-! ### a list that is being made, on top of the store -/
section
variable {S J : Store} {acc ys : List W} {x y : W}
theorem top_get {ob : Ob} : (S ++ ob :: J)[S.length]? = some ob := by simp
theorem top_set {ob ob' : Ob} : (S ++ ob :: J).set S.length ob' = S ++ ob' :: J := by simp
@[simp] theorem acc_ty : tyM "list" (.ref S.length) (S ++ .lst acc :: J) = true := by simp [tyM]
@[simp] theorem acc_append : appendM (.ref S.length) [x] (S ++ .lst acc :: J) = if acc.length < sizeLine then some (.non, S ++ .lst (acc ++ [x]) :: J) else none := by
  simp [appendM]
theorem acc_ext_tup : extM (.ref S.length) [.tup ys] (S ++ .lst acc :: J) = if acc.length + ys.length ≤ sizeLine then some (.non, S ++ .lst (acc ++ ys) :: J) else none := by
  simp [extM]
theorem acc_ext_lst : extM (.ref S.length) [.lst ys] (S ++ .lst acc :: J) = if acc.length + ys.length ≤ sizeLine then some (.non, S ++ .lst (acc ++ ys) :: J) else none := by
  simp [extM]
@[simp] theorem acc_pop : popM (.ref S.length) [] (S ++ .lst (acc ++ [x]) :: J) = some (x, S ++ .lst acc :: J) := by
  simp [popM]
@[simp] theorem acc_len : lenN [.ref S.length] (S ++ .lst acc :: J) = some (.int acc.length, S ++ .lst acc :: J) := by simp [lenN, lsW]
@[simp] theorem acc_tru : truW (.ref S.length) (S ++ .lst acc :: J) = some (!acc.isEmpty) := by simp [truW]
end
mutual
theorem lowW_mono {n m : Nat} (h : n ≤ m) : ∀ {w : W}, lowW n w = true → lowW m w = true
  | .non, _ => rfl
  | .bl _, _ => rfl
  | .int _, _ => rfl
  | .str _, _ => rfl
  | .ty _, _ => rfl
  | .glo _, _ => rfl
  | .scr _, _ => rfl
  | .siz _, _ => rfl
  | .ref a, e => by simp only [lowW, decide_eq_true_eq] at e ⊢; omega
  | .tup ws, e => by simp only [lowW] at e ⊢; exact lowWs_mono h e
  | .lst ws, e => by simp only [lowW] at e ⊢; exact lowWs_mono h e
  | .dic ks ws, e => by simp only [lowW] at e ⊢; exact lowWs_mono h e
theorem lowWs_mono {n m : Nat} (h : n ≤ m) : ∀ {ws : List W}, lowWs n ws = true → lowWs m ws = true
  | [], _ => rfl
  | w :: ws, e => by
    simp only [lowWs, Bool.and_eq_true] at e ⊢
    exact ⟨lowW_mono h e.1, lowWs_mono h e.2⟩
end
theorem lowWs_all {n : Nat} : ∀ {ws : List W}, lowWs n ws = true ↔ ∀ w ∈ ws, lowW n w = true
  | [] => by simp [lowWs]
  | w :: ws => by simp [lowWs, lowWs_all (ws := ws)]
theorem lowO_mono {n m : Nat} (h : n ≤ m) {o : Ob} (ho : lowO n o = true) : lowO m o = true := by
  cases o with
  | lst ws => exact lowWs_mono h ho
  | dic kvs => exact lowWs_mono h ho
  | ins c fs => exact lowWs_mono h ho
theorem clo_iff {S : Store} : Clo S ↔ ∀ o ∈ S, lowO S.length o = true := by
  show okS S.length S = true ↔ _
  unfold okS
  rw [List.take_length, List.all_eq_true]
theorem clo_push {S : Store} {o : Ob} (hS : Clo S) (h : lowO (S.length + 1) o = true) : Clo (S ++ [o]) := by
  rw [clo_iff] at hS ⊢
  intro x hx
  have e : (S ++ [o]).length = S.length + 1 := by simp
  rw [e]
  rcases List.mem_append.mp hx with hx | hx
  · exact lowO_mono (Nat.le_succ _) (hS x hx)
  · rw [List.mem_singleton.mp hx]; exact h
theorem clo_set {S : Store} {o : Ob} {i : Nat} (hS : Clo S) (h : lowO S.length o = true) : Clo (S.set i o) := by
  rw [clo_iff] at hS ⊢
  intro x hx
  rw [List.length_set]
  rcases List.mem_or_eq_of_mem_set hx with hx | hx
  · exact hS x hx
  · rw [hx]; exact h
@[simp] theorem ty_strv {S : Store} {a : Str} : tyM "str" (.str a) S = true := rfl
end Sh

set_option Elab.async false
set_option linter.all false
set_option maxRecDepth 100000
set_option maxHeartbeats 2000000
namespace Sh
open PySem L2
/-! ### rows -/
def rowW : W → Option (List W)
  | .tup ws => some ws
  | .lst ws => some ws
  | _ => none
def mkR (f : Bool) (xs : List W) : W := if f = true then .lst xs else .tup xs
@[simp] theorem szl : sizeLine = 16777216 := rfl
variable {n : Nat} {S J : Store} {f g : Bool} {xs : List W} {G : GD}
@[simp] theorem lenS_str {a : Str} : lenSN [.str a] S = if a.length ≤ sizeLine then some (.int a.length, S) else none := rfl
@[simp] theorem lenS_tup : lenSN [.tup xs] S = some (.int xs.length, S) := rfl
@[simp] theorem lenS_lst : lenSN [.lst xs] S = some (.int xs.length, S) := rfl
@[simp] theorem lenS_siz {k : Nat} : lenSN [.siz k] S = some (.int k, S) := rfl
@[simp] theorem lenS_scr {ns : List Int} : lenSN [.scr ns] S = lenN [.scr ns] S := rfl
@[simp] theorem lenS_ref {a : Nat} : lenSN [.ref a] S = lenN [.ref a] S := rfl
@[simp] theorem lenS_mk : lenSN [mkR f xs] S = some (.int xs.length, S) := by cases f <;> rfl
@[simp] theorem get_mk {i : Int} : getW G (mkR f xs) (.int i) S = (atI xs i).map fun w => (w, S) := by cases f <;> rfl
@[simp] theorem iter_mk : iterW (mkR f xs) S = some (itT xs) := by cases f <;> rfl
@[simp] theorem low_mk : lowW n (mkR f xs) = lowWs n xs := by cases f <;> rfl
@[simp] theorem tup_mk : tupleN [mkR f xs] S = some (.tup xs, S) := by cases f <;> rfl
@[simp] theorem list_mk {m : Bool} : listN m [mkR f xs] S = some (mkL m xs S) := by cases f <;> rfl
@[simp] theorem gRow_mk {is : List Nat} {e : En} : gRow is (mkR f xs) e S = if xs.length = is.length then some (setVars is xs e, S) else none := by cases f <;> rfl
theorem is_row_mk (hS : Clo S) : F (n + 1) .f_is_row [mkR f xs] S = .ok (.bl true) S := by
  cases f <;> simp [F_is_row, b_is_row, hS, mkR]
/-- plain things -/
def plB : W → Bool
  | .int _ => true
  | .str x => decide (x.length ≤ 1000)
  | .bl _ => true
  | .non => true
  | _ => false
theorem is_row_pl (hS : Clo S) {w : W} (h : plB w = true) : F (n + 1) .f_is_row [w] S = .ok (.bl false) S := by
  cases w <;> first | (cases h; done) | simp [F_is_row, b_is_row, hS]
theorem pl_low {w : W} (h : plB w = true) : lowW n w = true := by
  cases w <;> first | (cases h; done) | rfl
/-! ### texts -/
def wordsL : List Str := "nothing" :: "first" :: "no" :: "if" :: "most" :: "again" :: "to" :: "items" :: "every" :: "while" :: "do" :: "call" :: "back" :: "out" :: "fall" :: "keep" :: "ask" :: "anew" :: "scan" :: "move" :: "tab" :: "find" :: "reach" :: "many" :: "match" :: "here" :: "put" :: "take" :: "size" :: "at" :: "place" :: "say" :: "is" :: "isnt" :: "list" :: "mod" :: []
theorem words_eq : c_WORDS = .tup (wordsL.map W.str) := rfl
theorem scVs_strs : ∀ xs : List Str, scVs (xs.map W.str) = some (xs.map V.str)
  | [] => rfl
  | x :: xs => by simp [scVs, scV, scVs_strs xs]
theorem inV_strs {x : Str} : ∀ xs : List Str, inV (.str x) (xs.map V.str) = decide (x ∈ xs)
  | [] => rfl
  | y :: ys => by
    have ih := inV_strs (x := x) ys
    unfold inV at ih ⊢
    rw [List.map_cons, List.any_cons, ih]
    by_cases h : x = y
    · subst h; simp [eqV]
    · have h2 : ¬ y = x := fun e => h e.symm
      simp [eqV, h, h2]
theorem in_strs {G : GD} {x : Str} {xs : List Str} : inW G (.str x) (.tup (xs.map W.str)) S = some (.bl (decide (x ∈ xs)), S) := by simp [inW, inB, scVs_strs, scV, inV_strs]
theorem in_strsL {G : GD} {x : Str} {xs : List Str} : inW G (.str x) (.lst (xs.map W.str)) S = some (.bl (decide (x ∈ xs)), S) := by simp [inW, inB, scVs_strs, scV, inV_strs]
theorem notIn_strs {G : GD} {x : Str} {xs : List Str} : notInW G (.str x) (.tup (xs.map W.str)) S = some (.bl (!decide (x ∈ xs)), S) := by simp [notInW, inB, scVs_strs, scV, inV_strs]
theorem notIn_strsL {G : GD} {x : Str} {xs : List Str} : notInW G (.str x) (.lst (xs.map W.str)) S = some (.bl (!decide (x ∈ xs)), S) := by simp [notInW, inB, scVs_strs, scV, inV_strs]
theorem low_strs {n : Nat} {xs : List Str} : lowWs n (xs.map W.str) = true := lowWs_all.mpr fun q hq => by
  obtain ⟨z, _, rfl⟩ := List.mem_map.mp hq
  rfl
def letterB (c : Nat) : Bool := decide (97 ≤ c) && decide (c ≤ 122)
def nmB (x : Str) : Bool := (decide (1 ≤ x.length) && decide (x.length ≤ 8)) && (x.cps.toList.all letterB && !decide (x ∈ wordsL))
theorem nm_len {x : Str} (h : nmB x = true) : x.length ≤ 8 := by
  simp only [nmB, Bool.and_eq_true, decide_eq_true_eq] at h
  exact h.1.2
theorem is_name_eq (hS : Clo S) {x : Str} (hx : x.length ≤ 1000) : F (n + 1) .f_is_name [.str x] S = .ok (.bl (nmB x)) S := by
  have hx' : x.length ≤ 16777216 := by omega
  simp [F_is_name, b_is_name, hS, hx']
  by_cases h : x.length < 1 ∨ 8 < x.length
  · rw [if_pos (by omega)]
    simp [nmB]
    omega
  · rw [if_neg (by omega)]
    refine fin_chr letterB (.bl false) rfl (fun c hc => ?_) (by simpa using hx') (by simp) (fun h2 y => ?_) (fun h2 => ?_)
    · simp [letterB]
      by_cases h1 : 97 ≤ c ∧ c ≤ 122
      · rw [if_neg (by omega), if_pos h1]
      · rw [if_pos (by omega), if_neg h1]
    · simp only [words_eq]
      simp [notIn_strs, hS, nmB, h2]
      omega
    · simp [hS, nmB, h2]
theorem is_whole_eq (hS : Clo S) {w : W} (h : plB w = true) : F (n + 1) .f_is_whole [w] S = .ok (.bl (match w with | .int _ => true | _ => false)) S := by
  cases w <;> first | (cases h; done) | simp [F_is_whole, b_is_whole, hS]
def signB (c : Nat) : Bool := (decide (32 ≤ c) && decide (c ≤ 126)) && !decide (c = 37)
def atB : W → Bool
  | .int _ => true
  | .str x => decide (x.length ≤ 20) && x.cps.toList.all signB
  | _ => false
theorem is_atom_eq (hS : Clo S) {w : W} (h : plB w = true) : F (n + 2) .f_is_atom [w] S = .ok (.bl (atB w)) S := by
  have h1 := is_whole_eq (n := n) hS h
  cases w with
  | str x =>
    have hx : x.length ≤ 16777216 := by simp [plB] at h; omega
    simp at h1
    simp [F_is_atom, b_is_atom, hS, h1, hx]
    by_cases h20 : 20 < x.length
    · rw [if_pos (by omega)]
      simp [atB]
      omega
    · rw [if_neg (by omega)]
      refine fin_chr signB (.bl false) rfl (fun c hc => ?_) (by simpa using hx) (by simp) (fun h2 y => ?_) (fun h2 => ?_)
      · simp [signB]
        by_cases h1 : 32 ≤ c ∧ c ≤ 126
        · by_cases h2 : c = 37
          · subst h2; simp
          · simp [h1, h2]
            omega
        · simp [h1]
          intros; omega
      · simp [hS, atB, h2]
        omega
      · simp [hS, atB, h2]
  | int i => simp at h1; simp [F_is_atom, b_is_atom, hS, h1, atB]
  | _ => first | (cases h; done) | (simp at h1; simp [F_is_atom, b_is_atom, hS, h1, atB])
theorem at_pl {w : W} (h : atB w = true) : plB w = true := by
  cases w with
  | str x => simp [atB] at h; simp [plB]; omega
  | int i => rfl
  | _ => cases h
end Sh

set_option Elab.async false
set_option linter.all false
set_option maxRecDepth 100000
set_option maxHeartbeats 4000000
namespace Sh
open PySem L2
variable {n : Nat} {S J : Store}
inductive It where
  | name (f : Bool) (x : Str) | atom (f : Bool) (w : W)
inductive Op where
  | non (f : Bool) | give (f g : Bool) (is : List It) | each (f : Bool) (x r : Str) (b : Op) | alt (f : Bool) (a b : Op) | cond (f g t : Bool) (i j : It) (b : Op) | last (f : Bool) (v : Str) (i : It) (b : Op)
def wI : It → W
  | .name f x => mkR f [.str "name", .str x]
  | .atom f w => mkR f [.str "atom", w]
def tw (t : Bool) : Str := if t = true then "alike" else "unlike"
def wO : Op → W
  | .non f => mkR f [.str "none"]
  | .give f g is => mkR f [.str "give", mkR g (is.map wI)]
  | .each f x r b => mkR f [.str "each", .str x, .str r, wO b]
  | .alt f a b => mkR f [.str "choice", wO a, wO b]
  | .cond f g t i j b => mkR f [.str "when", mkR g [.str (tw t), wI i, wI j], wO b]
  | .last f v i b => mkR f [.str "last", .str v, wI i, wO b]
def plI : It → Bool
  | .name _ x => decide (x.length ≤ 1000)
  | .atom _ w => plB w
def okI (g : List Str) : It → Bool
  | .name _ x => nmB x && decide (x ∈ g)
  | .atom _ w => atB w
def okO (g : List Str) : Op → Bool
  | .non _ => true
  | .give _ _ is => decide (is.length ≤ 3) && is.all (okI g)
  | .each _ x r b => (nmB x && !decide (x ∈ g)) && (nmB r && okO (g ++ [x]) b)
  | .alt _ a b => okO g a && okO g b
  | .cond _ _ _ i j b => (okI g i && okI g j) && okO g b
  | .last _ v i b => (nmB v && okI g i) && okO g b
def dep : Op → Nat
  | .non _ => 1
  | .give _ _ _ => 1
  | .each _ _ _ b => dep b + 1
  | .alt _ a b => max (dep a) (dep b) + 1
  | .cond _ _ _ _ _ b => dep b + 1
  | .last _ _ _ b => dep b + 1
theorem ok_pl {g : List Str} {i : It} (h : okI g i = true) : plI i = true := by
  cases i with
  | name f x => simp only [okI, Bool.and_eq_true] at h; have := nm_len h.1; simp [plI]; omega
  | atom f w => exact at_pl h
theorem is_item_eq (hS : Clo S) {i : It} (h : plI i = true) {g : List Str} : F (n + 3) .f_is_item [wI i, .tup (g.map W.str)] S = .ok (.bl (okI g i)) S := by
  cases i with
  | name f x =>
    have h1 := is_row_mk (n := n + 1) hS (f := f) (xs := [.str "name", .str x])
    have h2 := is_name_eq (n := n + 1) hS (x := x) (by simpa [plI] using h)
    simp at h1
    simp [F_is_item, b_is_item, hS, wI, h1, h2, in_strs, okI]
  | atom f w =>
    have h1 := is_row_mk (n := n + 1) hS (f := f) (xs := [.str "atom", w])
    have h2 := is_atom_eq (n := n) hS (w := w) h
    simp at h1
    simp [F_is_item, b_is_item, hS, wI, h1, h2, okI]
def fltW : Option Nat → W
  | none => .non
  | some k => .tup [.int k]
theorem all_find {α : Type} {p : α → Bool} : ∀ {l : List α}, l.all p = true → l.findIdx? (fun x => !p x) = none
  | [], _ => rfl
  | x :: l, h => by
    simp only [List.all_cons, Bool.and_eq_true] at h
    rw [List.findIdx?_cons, all_find h.2]
    simp [h.1]
theorem find_at {α : Type} {p : α → Bool} : ∀ {l : List α} {k : Nat} {x : α}, (l.take k).all p = true → l[k]? = some x → p x = false → l.findIdx? (fun x => !p x) = some k
  | [], k, x, _, h, _ => by simp at h
  | y :: l, 0, x, _, h, hp => by
    simp only [List.getElem?_cons_zero] at h
    cases h
    rw [List.findIdx?_cons, hp]; rfl
  | y :: l, k + 1, x, h1, h, hp => by
    simp only [List.take_succ_cons, List.all_cons, Bool.and_eq_true] at h1
    simp only [List.getElem?_cons_succ] at h
    rw [List.findIdx?_cons, find_at h1.2 h hp]
    simp [h1.1]
theorem items_fault_eq (hS : Clo S) {f : Bool} {is : List It} (hl : is.length ≤ 3) (hp : ∀ i ∈ is, plI i = true) {g : List Str} :
    F (n + 4) .f_items_fault [mkR f (is.map wI), .tup (g.map W.str)] S = .ok (fltW (is.findIdx? fun i => !okI g i)) S := by
  have h1 := is_row_mk (n := n + 2) hS (f := f) (xs := is.map wI)
  simp [F_items_fault, b_items_fault, hS, h1]
  rw [if_neg (by omega)]
  refine fin_inv (fun i e S' => S' = S ∧ i ≤ is.length ∧ (∃ x, e = [some (mkR f (is.map wI)), some (.tup (g.map W.str)), x]) ∧ (is.take i).all (okI g) = true) is.length (by have := fuel_ge; omega)
    (J := itR 0 is.length) (iRange1_ok (by simp) (by omega)) ⟨rfl, Nat.zero_le _, ⟨_, rfl⟩, by simp⟩ (fun i e S h => h.2.1) ?_
  rintro i e S' ⟨rfl, hi, ⟨x, rfl⟩, hall⟩
  by_cases hil : i < is.length
  · refine .inr ⟨.int i, _, _, by simp [itR, hil], rfl, ?_⟩
    obtain ⟨y, hy⟩ : ∃ y, is[i]? = some y := ⟨_, List.getElem?_eq_getElem hil⟩
    have h2 := is_item_eq (n := n) hS (i := y) (hp y (List.mem_of_getElem? hy)) (g := g)
    have hnext : (is.take (i + 1)).all (okI g) = okI g y := by
      rw [List.take_add_one, hy]; simp [hall]
    simp [hy, h2]
    cases hv : okI g y with
    | true => simp; refine ⟨hil, ?_⟩; rw [hv] at hnext; simpa using hnext
    | false => simp [find_at hall hy hv, fltW]; exact cut_self hS rfl
  · have hie : i = is.length := by omega
    refine .inl ⟨by simp [itR, hil], ?_⟩
    rw [hie, List.take_length] at hall
    simp [hS, all_find hall, fltW]
theorem notIn_OPP {t : Bool} : notInW gdT (.str (tw t)) (.glo "OPPOSITES") S = some (.bl false, S) := by
  cases t <;> kernel_rfl
theorem tw_isi {t : Bool} {w : W} : w = .str (tw t) → isiN [w, .ty "str"] S = some (.bl true, S) := by rintro rfl; simp
theorem test_fault_eq (hS : Clo S) {f t : Bool} {i j : It} {g : List Str} (hi : okI g i = true) (hj : okI g j = true) :
    F (n + 4) .f_test_fault [mkR f [.str (tw t), wI i, wI j], .tup (g.map W.str)] S = .ok .non S := by
  have h1 := is_row_mk (n := n + 2) hS (f := f) (xs := [.str (tw t), wI i, wI j])
  have h2 := is_item_eq (n := n) hS (i := i) (ok_pl hi) (g := g)
  have h3 := is_item_eq (n := n) hS (i := j) (ok_pl hj) (g := g)
  simp [F_test_fault, b_test_fault, hS, h1, notIn_OPP]
  refine fin_all (ws := [.int 1, .int 2]) (fun _ => true) .non (by simp [iE]) (fun w hw => ?_) (by simp) (by simp) (fun ha y => ?_) (fun ha => ?_)
  · simp only [List.mem_cons, List.not_mem_nil, or_false] at hw
    rcases hw with rfl | rfl
    · simp [h2, hi]
    · simp [h3, hj]
  · simp [hS]
  · simp at ha
theorem behind_non (hS : Clo S) {k : Int} : F (n + 1) .f_behind [.int k, .non] S = .ok .non S := by
  simp [F_behind, b_behind, hS, isNon]
theorem behind_tup (hS : Clo S) {k : Int} {xs : List W} (hl : xs.length ≤ 1000) (hw : lowWs S.length xs = true) : F (n + 1) .f_behind [.int k, .tup xs] S = .ok (.tup (.int k :: xs)) S := by
  simp [F_behind, b_behind, hS, isNon]
  rw [if_pos (by omega)]
  exact cut_self hS (by simpa [lowW, lowWs] using hw)
/-! ### LENGTHS -/
def lenOf (k : Str) : Option Int := ([("none", 1), ("give", 2), ("each", 4), ("choice", 3), ("when", 3), ("last", 4)] : List (Str × Int)).lookup k
theorem gd_LEN : gdT "LENGTHS" = some kv_LENGTHS := by
  unfold gdT
  rw [if_pos rfl]
theorem kv_LEN : kv_LENGTHS = ([("none", 1), ("give", 2), ("each", 4), ("choice", 3), ("when", 3), ("last", 4)] : List (Str × Int)).map fun p => (p.1, .int p.2) := rfl
theorem look_mapI {k : Str} : ∀ l : List (Str × Int), (l.map fun p => (p.1, W.int p.2)).lookup k = (l.lookup k).map W.int
  | [] => rfl
  | (a, b) :: l => by
    simp only [List.map_cons, List.lookup_cons]
    cases k == a with
    | true => rfl
    | false => exact look_mapI l
theorem notIn_LEN {k : Str} : notInW gdT (.str k) (.glo "LENGTHS") S = some (.bl (!(lenOf k).isSome), S) := by
  simp only [notInW, inB, gd_LEN, kv_LEN, look_mapI]
  unfold lenOf
  cases ([("none", 1), ("give", 2), ("each", 4), ("choice", 3), ("when", 3), ("last", 4)] : List (Str × Int)).lookup k <;> rfl
theorem get_LEN {k : Str} : getW gdT (.glo "LENGTHS") (.str k) S = (lenOf k).map fun z => (.int z, S) := by
  simp only [getW, gd_LEN, kv_LEN, look_mapI]
  unfold lenOf
  cases ([("none", 1), ("give", 2), ("each", 4), ("choice", 3), ("when", 3), ("last", 4)] : List (Str × Int)).lookup k <;> rfl
theorem lenOf1 : lenOf "none" = some 1 := by decide +kernel
theorem lenOf2 : lenOf "give" = some 2 := by decide +kernel
theorem lenOf3 : lenOf "each" = some 4 := by decide +kernel
theorem lenOf4 : lenOf "choice" = some 3 := by decide +kernel
theorem lenOf5 : lenOf "when" = some 3 := by decide +kernel
theorem lenOf6 : lenOf "last" = some 4 := by decide +kernel
end Sh

set_option Elab.async false
set_option linter.all false
set_option maxRecDepth 100000
set_option maxHeartbeats 4000000
namespace Sh
open PySem L2
variable {n : Nat} {S J : Store}
@[simp] theorem lenOf1' : lenOf ⟨#[110, 111, 110, 101]⟩ = some 1 := by decide +kernel
@[simp] theorem lenOf2' : lenOf ⟨#[103, 105, 118, 101]⟩ = some 2 := by decide +kernel
@[simp] theorem lenOf3' : lenOf ⟨#[101, 97, 99, 104]⟩ = some 4 := by decide +kernel
@[simp] theorem lenOf4' : lenOf ⟨#[99, 104, 111, 105, 99, 101]⟩ = some 3 := by decide +kernel
@[simp] theorem lenOf5' : lenOf ⟨#[119, 104, 101, 110]⟩ = some 3 := by decide +kernel
@[simp] theorem lenOf6' : lenOf ⟨#[108, 97, 115, 116]⟩ = some 4 := by decide +kernel
theorem each_fault_eq (hS : Clo S) {f : Bool} {x r : Str} {v : W} {g : List Str} (hx : nmB x = true) (hg : x ∉ g) (hr : nmB r = true) (hl : g.length ≤ 1000)
    (hb : F (n + 1) .f_part_fault [v, .tup ((g ++ [x]).map W.str)] S = .ok .non S) : F (n + 2) .f_each_fault [mkR f [.str "each", .str x, .str r, v], .tup (g.map W.str)] S = .ok .non S := by
  have h1 := is_name_eq (n := n) hS (x := x) (by have := nm_len hx; omega)
  have h2 := is_name_eq (n := n) hS (x := r) (by have := nm_len hr; omega)
  rw [hx] at h1; rw [hr] at h2
  simp only [List.map_append, List.map_cons, List.map_nil] at hb
  simp [F_each_fault, b_each_fault, hS, h1, h2, in_strs, hg, hb, behind_non (n := n) hS]
  omega
theorem last_fault_eq (hS : Clo S) {f : Bool} {x : Str} {i : It} {v : W} {g : List Str} (hx : nmB x = true) (hi : okI g i = true)
    (hb : F (n + 3) .f_part_fault [v, .tup (g.map W.str)] S = .ok .non S) : F (n + 4) .f_last_fault [mkR f [.str "last", .str x, wI i, v], .tup (g.map W.str)] S = .ok .non S := by
  have h1 := is_name_eq (n := n + 2) hS (x := x) (by have := nm_len hx; omega)
  have h2 := is_item_eq (n := n) hS (i := i) (ok_pl hi) (g := g)
  rw [hx] at h1; rw [hi] at h2
  simp [F_last_fault, b_last_fault, hS, h1, h2, hb, behind_non (n := n + 2) hS]
theorem part_fault_eq (hS : Clo S) : ∀ (op : Op) (g : List Str) (n : Nat), okO g op = true → g.length + dep op ≤ 500 → 2 * dep op + 6 ≤ n → F n .f_part_fault [wO op, .tup (g.map W.str)] S = .ok .non S
  | .non f, g, n, h, hl, hn => by
    obtain ⟨n, rfl⟩ : ∃ m, n = m + 8 := ⟨n - 8, by simp only [dep] at hn; omega⟩
    have h1 := is_row_mk (n := n + 6) hS (f := f) (xs := [.str "none"])
    simp at h1
    rw [F_part_fault]
    simp [b_part_fault, hS, wO, h1, notIn_LEN, get_LEN]
  | .give f gg is, g, n, h, hl, hn => by
    obtain ⟨n, rfl⟩ : ∃ m, n = m + 8 := ⟨n - 8, by simp only [dep] at hn; omega⟩
    simp only [okO, Bool.and_eq_true, decide_eq_true_eq] at h
    have h1 := is_row_mk (n := n + 6) hS (f := f) (xs := [.str "give", mkR gg (is.map wI)])
    have h2 := items_fault_eq (n := n + 3) hS (f := gg) h.1 (fun i hi => ok_pl (List.all_eq_true.mp h.2 i hi)) (g := g)
    rw [all_find h.2] at h2
    simp at h1
    rw [F_part_fault]
    simp [b_part_fault, hS, wO, h1, notIn_LEN, get_LEN, h2, fltW, behind_non (n := n + 6) hS]
  | .each f x r b, g, n, h, hl, hn => by
    obtain ⟨n, rfl⟩ : ∃ m, n = m + 8 := ⟨n - 8, by simp only [dep] at hn; omega⟩
    simp only [okO, Bool.and_eq_true, Bool.not_eq_true', decide_eq_false_iff_not] at h
    simp only [dep] at hl hn
    have hb := part_fault_eq hS b (g ++ [x]) (n + 6) h.2.2 (by simp only [List.length_append, List.length_singleton]; omega) (by omega)
    have h1 := is_row_mk (n := n + 6) hS (f := f) (xs := [.str "each", .str x, .str r, wO b])
    have h2 := each_fault_eq (n := n + 5) hS (f := f) h.1.1 h.1.2 h.2.1 (by omega) hb
    simp at h1 h2
    rw [F_part_fault]
    simp [b_part_fault, hS, wO, h1, notIn_LEN, get_LEN, h2]
  | .last f v i b, g, n, h, hl, hn => by
    obtain ⟨n, rfl⟩ : ∃ m, n = m + 8 := ⟨n - 8, by simp only [dep] at hn; omega⟩
    simp only [okO, Bool.and_eq_true] at h
    simp only [dep] at hl hn
    have hb := part_fault_eq hS b g (n + 6) h.2 (by omega) (by omega)
    have h1 := is_row_mk (n := n + 6) hS (f := f) (xs := [.str "last", .str v, wI i, wO b])
    have h2 := last_fault_eq (n := n + 3) hS (f := f) h.1.1 h.1.2 hb
    simp at h1 h2
    rw [F_part_fault]
    simp [b_part_fault, hS, wO, h1, notIn_LEN, get_LEN, h2]
  | .alt f a b, g, n, h, hl, hn => by
    obtain ⟨n, rfl⟩ : ∃ m, n = m + 8 := ⟨n - 8, by simp only [dep] at hn; omega⟩
    simp only [okO, Bool.and_eq_true] at h
    simp only [dep] at hl hn
    have ha := part_fault_eq hS a g (n + 7) h.1 (by omega) (by omega)
    have hb := part_fault_eq hS b g (n + 7) h.2 (by omega) (by omega)
    have h1 := is_row_mk (n := n + 6) hS (f := f) (xs := [.str "choice", wO a, wO b])
    simp at h1
    rw [F_part_fault]
    simp [b_part_fault, hS, wO, h1, notIn_LEN, get_LEN, ha, hb, behind_non (n := n + 6) hS, isNon]
  | .cond f gg t i j b, g, n, h, hl, hn => by
    obtain ⟨n, rfl⟩ : ∃ m, n = m + 8 := ⟨n - 8, by simp only [dep] at hn; omega⟩
    simp only [okO, Bool.and_eq_true] at h
    simp only [dep] at hl hn
    have hb := part_fault_eq hS b g (n + 7) h.2 (by omega) (by omega)
    have h1 := is_row_mk (n := n + 6) hS (f := f) (xs := [.str "when", mkR gg [.str (tw t), wI i, wI j], wO b])
    have h2 := test_fault_eq (n := n + 3) hS (f := gg) (t := t) h.1.1 h.1.2
    simp at h1
    rw [F_part_fault]
    simp [b_part_fault, hS, wO, h1, notIn_LEN, get_LEN, h2, hb, behind_non (n := n + 6) hS, isNon]
end Sh

set_option Elab.async false
set_option linter.all false
set_option maxRecDepth 100000
set_option maxHeartbeats 4000000
namespace Sh
open PySem L2
variable {n : Nat} {S J : Store}
@[simp] theorem mk_false {xs : List W} : mkR false xs = .tup xs := rfl
@[simp] theorem mk_true {xs : List W} : mkR true xs = .lst xs := rfl
/-! ### depth -/
theorem dep_pos : ∀ op : Op, 1 ≤ dep op
  | .non _ => Nat.le_refl _
  | .give _ _ _ => Nat.le_refl _
  | .each _ _ _ b => by simp only [dep]; omega
  | .alt _ a b => by simp only [dep]; omega
  | .cond _ _ _ _ _ b => by simp only [dep]; omega
  | .last _ _ _ b => by simp only [dep]; omega
theorem depth_eq (hS : Clo S) : ∀ (op : Op) (n : Nat), dep op ≤ n → F n .f_depth_of [wO op] S = .ok (.int (dep op)) S
  | .non f, n, hn => by
    obtain ⟨n, rfl⟩ : ∃ m, n = m + 1 := ⟨n - 1, by simp only [dep] at hn; omega⟩
    rw [F_depth_of]
    simp [b_depth_of, hS, wO, dep]
  | .give f g is, n, hn => by
    obtain ⟨n, rfl⟩ : ∃ m, n = m + 1 := ⟨n - 1, by simp only [dep] at hn; omega⟩
    rw [F_depth_of]
    simp [b_depth_of, hS, wO, dep]
  | .each f x r b, n, hn => by
    obtain ⟨n, rfl⟩ : ∃ m, n = m + 1 := ⟨n - 1, by simp only [dep] at hn; omega⟩
    have hb := depth_eq hS b n (by simp only [dep] at hn; omega)
    rw [F_depth_of]
    simp [b_depth_of, hS, wO, dep, hb]
    omega
  | .last f x i b, n, hn => by
    obtain ⟨n, rfl⟩ : ∃ m, n = m + 1 := ⟨n - 1, by simp only [dep] at hn; omega⟩
    have hb := depth_eq hS b n (by simp only [dep] at hn; omega)
    rw [F_depth_of]
    simp [b_depth_of, hS, wO, dep, hb]
    omega
  | .cond f g t i j b, n, hn => by
    obtain ⟨n, rfl⟩ : ∃ m, n = m + 1 := ⟨n - 1, by simp only [dep] at hn; omega⟩
    have hb := depth_eq hS b n (by simp only [dep] at hn; omega)
    rw [F_depth_of]
    simp [b_depth_of, hS, wO, dep, hb]
    omega
  | .alt f a b, n, hn => by
    obtain ⟨n, rfl⟩ : ∃ m, n = m + 1 := ⟨n - 1, by simp only [dep] at hn; omega⟩
    have ha := depth_eq hS a n (by simp only [dep] at hn; omega)
    have hb := depth_eq hS b n (by simp only [dep] at hn; omega)
    rw [F_depth_of]
    simp [b_depth_of, hS, wO, dep, ha, hb]
    split <;> omega
/-! ### frozen -/
mutual
/-- data of moderate size, numbers of any -/
def daW : W → Bool
  | .non => true
  | .bl _ => true
  | .int _ => true
  | .str x => decide (x.length ≤ 1000)
  | .tup ws => decide (ws.length ≤ 1000) && daWs ws
  | .lst ws => decide (ws.length ≤ 1000) && daWs ws
  | .ref _ => false
  | .ty _ => false
  | .glo _ => false
  | .dic _ _ => false
  | .scr _ => false
  | .siz _ => false
def daWs : List W → Bool
  | [] => true
  | w :: ws => daW w && daWs ws
end
theorem daWs_all : ∀ {ws : List W}, daWs ws = true ↔ ∀ w ∈ ws, daW w = true
  | [] => by simp [daWs]
  | w :: ws => by simp [daWs, daWs_all (ws := ws)]
mutual
theorem da_low {n : Nat} : ∀ {w : W}, daW w = true → lowW n w = true
  | .non, _ => rfl
  | .bl _, _ => rfl
  | .int _, _ => rfl
  | .str _, _ => rfl
  | .tup ws, h => by simp only [daW, Bool.and_eq_true] at h; simp only [lowW]; exact da_lows h.2
  | .lst ws, h => by simp only [daW, Bool.and_eq_true] at h; simp only [lowW]; exact da_lows h.2
  | .ref _, h => by cases h
  | .ty _, _ => rfl
  | .glo _, _ => rfl
  | .dic _ ws, h => by cases h
  | .scr _, _ => rfl
  | .siz _, _ => rfl
theorem da_lows {n : Nat} : ∀ {ws : List W}, daWs ws = true → lowWs n ws = true
  | [], _ => rfl
  | w :: ws, h => by
    simp only [daWs, Bool.and_eq_true] at h
    simp only [lowWs, da_low h.1, da_lows h.2, Bool.and_self]
end
mutual
def frzW : W → W
  | .tup ws => .tup (frzWs ws)
  | .lst ws => .tup (frzWs ws)
  | .non => .non
  | .bl b => .bl b
  | .int i => .int i
  | .str x => .str x
  | .ref a => .ref a
  | .ty n => .ty n
  | .glo x => .glo x
  | .dic k v => .dic k v
  | .scr ns => .scr ns
  | .siz k => .siz k
def frzWs : List W → List W
  | [] => []
  | w :: ws => frzW w :: frzWs ws
end
mutual
def dpW : W → Nat
  | .tup ws => dpWs ws + 1
  | .lst ws => dpWs ws + 1
  | _ => 0
def dpWs : List W → Nat
  | [] => 0
  | w :: ws => max (dpW w) (dpWs ws)
end
theorem dpWs_mem : ∀ {ws : List W} {w : W}, w ∈ ws → dpW w ≤ dpWs ws
  | [], w, h => by simp at h
  | x :: ws, w, h => by
    simp only [dpWs]
    rcases List.mem_cons.mp h with rfl | h
    · omega
    · have := dpWs_mem h; omega
theorem frzWs_map : ∀ ws : List W, frzWs ws = ws.map frzW
  | [] => rfl
  | w :: ws => by simp [frzWs, frzWs_map ws]
@[simp] theorem frz_mk {f : Bool} {xs : List W} : frzW (mkR f xs) = .tup (xs.map frzW) := by cases f <;> simp [mkR, frzW, frzWs_map]
theorem row_dp {w : W} {ps : List W} (h : rowW w = some ps) : dpW w = dpWs ps + 1 := by
  cases w with
  | tup ws => cases h; simp [dpW]
  | lst ws => cases h; simp [dpW]
  | _ => cases h
theorem row_dt {w : W} {ps : List W} (hd : daW w = true) (h : rowW w = some ps) : ps.length ≤ 1000 ∧ ∀ p ∈ ps, daW p = true := by
  cases w with
  | tup ws => cases h; simp only [daW, Bool.and_eq_true, decide_eq_true_eq] at hd; exact ⟨hd.1, daWs_all.mp hd.2⟩
  | lst ws => cases h; simp only [daW, Bool.and_eq_true, decide_eq_true_eq] at hd; exact ⟨hd.1, daWs_all.mp hd.2⟩
  | _ => cases h
theorem row_iter {w : W} {ps : List W} (h : rowW w = some ps) : iterW w S = some (itT ps) := by
  cases w with
  | tup ws => cases h; rfl
  | lst ws => cases h; rfl
  | _ => cases h
theorem row_frz {w : W} {ps : List W} (h : rowW w = some ps) : frzW w = .tup (ps.map frzW) := by
  cases w with
  | tup ws => cases h; simp [frzW, frzWs_map]
  | lst ws => cases h; simp [frzW, frzWs_map]
  | _ => cases h
theorem is_row_eq (hS : Clo S) {w : W} (hd : daW w = true) : F (n + 1) .f_is_row [w] S = .ok (.bl (rowW w).isSome) S := by
  cases w <;> first | (cases hd; done) | simp [F_is_row, b_is_row, hS, rowW]
mutual
theorem frz_da : ∀ {w : W}, daW w = true → daW (frzW w) = true
  | .tup ws, h => by
    simp only [daW, Bool.and_eq_true, decide_eq_true_eq] at h
    simp only [frzW, daW, Bool.and_eq_true, decide_eq_true_eq]
    exact ⟨by rw [frzWs_map, List.length_map]; exact h.1, frz_das h.2⟩
  | .lst ws, h => by
    simp only [daW, Bool.and_eq_true, decide_eq_true_eq] at h
    simp only [frzW, daW, Bool.and_eq_true, decide_eq_true_eq]
    exact ⟨by rw [frzWs_map, List.length_map]; exact h.1, frz_das h.2⟩
  | .non, h => h
  | .bl b, h => h
  | .int i, h => h
  | .str x, h => h
  | .ref a, h => h
  | .ty n, h => h
  | .glo x, h => h
  | .dic k v, h => h
  | .scr ns, h => h
  | .siz k, h => h
theorem frz_das : ∀ {ws : List W}, daWs ws = true → daWs (frzWs ws) = true
  | [], h => rfl
  | w :: ws, h => by
    simp only [daWs, Bool.and_eq_true] at h
    simp only [frzWs, daWs, Bool.and_eq_true]
    exact ⟨frz_da h.1, frz_das h.2⟩
end
theorem frozenW_eq (hS : Clo S) : ∀ (n : Nat) (w : W), dpW w + 2 ≤ n → daW w = true → F n .f_frozen [w] S = .ok (frzW w) S
  | 0, w, h, _ => by omega
  | 1, w, h, _ => by omega
  | n + 2, w, h, hd => by
    rw [F_frozen]
    have h1 := is_row_eq (n := n) hS hd
    cases hr : rowW w with
    | none =>
      rw [hr] at h1
      have hf : frzW w = w := by cases w <;> first | rfl | cases hr
      simp [b_frozen, h1, hf, cut_self hS (da_low hd)]
    | some ps =>
      rw [hr] at h1
      obtain ⟨hl, hp⟩ := row_dt hd hr
      have hlc : eLc false (iE (eVar 0)) [1] (gVar 1) tYesM (eCall (F (n + 1) .f_frozen) [eVar 1]) [some w, none] S = .ok (.lst (ps.map frzW)) S :=
        lc_map (m := false) (f := frzW) (iE_ok (w := w) (by simp) (row_iter hr)) (by simp; omega) (fun x hx => by
          have := frozenW_eq hS (n + 1) x (by have := dpWs_mem hx; have := row_dp hr; omega) (hp x hx)
          simp [wipeE, this])
      have hd2 := frz_da hd
      rw [row_frz hr] at hd2
      simp [b_frozen, h1, hlc, row_frz hr, cut_self hS (da_low hd2)]
/-! ### frozen of a right one -/
def fzI : It → It
  | .name _ x => .name false x
  | .atom _ w => .atom false w
def fz : Op → Op
  | .non _ => .non false
  | .give _ _ is => .give false false (is.map fzI)
  | .each _ x r b => .each false x r (fz b)
  | .alt _ a b => .alt false (fz a) (fz b)
  | .cond _ _ t i j b => .cond false false t (fzI i) (fzI j) (fz b)
  | .last _ v i b => .last false v (fzI i) (fz b)
@[simp] theorem da_mk {f : Bool} {xs : List W} : daW (mkR f xs) = (decide (xs.length ≤ 1000) && daWs xs) := by cases f <;> rfl
@[simp] theorem dp_mk {f : Bool} {xs : List W} : dpW (mkR f xs) = dpWs xs + 1 := by cases f <;> rfl
theorem at_da {w : W} (h : atB w = true) : daW w = true := by
  have := at_pl h
  cases w <;> first | (cases h; done) | rfl | exact this
theorem at_frz {w : W} (h : atB w = true) : frzW w = w := by
  cases w <;> first | (cases h; done) | rfl
theorem at_dp {w : W} (h : atB w = true) : dpW w = 0 := by
  cases w <;> first | (cases h; done) | rfl
theorem frz_I {g : List Str} {i : It} (h : okI g i = true) : frzW (wI i) = wI (fzI i) ∧ daW (wI i) = true ∧ dpW (wI i) = 1 := by
  cases i with
  | name f x =>
    simp only [okI, Bool.and_eq_true] at h
    have := nm_len h.1
    refine ⟨by simp [wI, fzI, frzW, mk_false], by simp [wI, daWs, daW]; exact ⟨by decide, by omega⟩, by simp [wI, dpWs, dpW]⟩
  | atom f w =>
    refine ⟨by simp [wI, fzI, frzW, mk_false, at_frz h], ?_, by simp [wI, dpWs, dpW, at_dp h]⟩
    simp [wI, daWs, daW, at_da h]
    decide
theorem frz_Is {g : List Str} : ∀ {is : List It}, is.all (okI g) = true → (is.map wI).map frzW = (is.map fzI).map wI ∧ daWs (is.map wI) = true ∧ dpWs (is.map wI) ≤ 1
  | [], _ => ⟨rfl, rfl, by simp [dpWs]⟩
  | i :: is, h => by
    simp only [List.all_cons, Bool.and_eq_true] at h
    obtain ⟨a1, a2, a3⟩ := frz_I h.1
    obtain ⟨b1, b2, b3⟩ := frz_Is h.2
    refine ⟨?_, ?_, ?_⟩
    · simp only [List.map_cons, a1, b1]
    · simp only [List.map_cons, daWs, a2, b2, Bool.and_self]
    · simp only [List.map_cons, dpWs, a3]; omega
theorem tw_da {t : Bool} : daW (.str (tw t)) = true := by cases t <;> decide
theorem frz_O : ∀ {op : Op} {g : List Str}, okO g op = true → frzW (wO op) = wO (fz op) ∧ daW (wO op) = true ∧ dpW (wO op) ≤ dep op + 2
  | .non f, g, h => by
    refine ⟨by simp [wO, fz, frzW, mk_false], by simp [wO, daWs, daW]; decide, by simp [wO, dpWs, dpW]⟩
  | .give f gg is, g, h => by
    simp only [okO, Bool.and_eq_true, decide_eq_true_eq] at h
    obtain ⟨b1, b2, b3⟩ := frz_Is h.2
    simp only [List.map_map] at b1
    refine ⟨by simp [wO, fz, frzW, mk_false, b1], ?_, by simp [wO, dpWs, dpW, dep]; omega⟩
    simp [wO, daWs, daW, b2]
    exact ⟨by decide, by omega⟩
  | .each f x r b, g, h => by
    simp only [okO, Bool.and_eq_true] at h
    obtain ⟨b1, b2, b3⟩ := frz_O (op := b) h.2.2
    have := nm_len h.1.1
    have := nm_len h.2.1
    refine ⟨by simp [wO, fz, frzW, mk_false, b1], ?_, by simp [wO, dpWs, dpW, dep]; omega⟩
    simp [wO, daWs, daW, b2]
    exact ⟨by decide, by omega, by omega⟩
  | .alt f a b, g, h => by
    simp only [okO, Bool.and_eq_true] at h
    obtain ⟨a1, a2, a3⟩ := frz_O (op := a) h.1
    obtain ⟨b1, b2, b3⟩ := frz_O (op := b) h.2
    refine ⟨by simp [wO, fz, frzW, mk_false, a1, b1], ?_, by simp [wO, dpWs, dpW, dep]; omega⟩
    simp [wO, daWs, daW, a2, b2]
    decide
  | .cond f gg t i j b, g, h => by
    simp only [okO, Bool.and_eq_true] at h
    obtain ⟨i1, i2, i3⟩ := frz_I h.1.1
    obtain ⟨j1, j2, j3⟩ := frz_I h.1.2
    obtain ⟨b1, b2, b3⟩ := frz_O (op := b) h.2
    have := tw_da (t := t)
    simp only [daW, decide_eq_true_eq] at this
    refine ⟨by simp [wO, fz, frzW, mk_false, b1, i1, j1], ?_, by simp [wO, dpWs, dpW, dep, i3, j3]; omega⟩
    simp [wO, daWs, daW, b2, i2, j2, this]
    decide
  | .last f v i b, g, h => by
    simp only [okO, Bool.and_eq_true] at h
    obtain ⟨i1, i2, i3⟩ := frz_I h.1.2
    obtain ⟨b1, b2, b3⟩ := frz_O (op := b) h.2
    have := nm_len h.1.1
    refine ⟨by simp [wO, fz, frzW, mk_false, b1, i1], ?_, by simp [wO, dpWs, dpW, dep, i3]; omega⟩
    simp [wO, daWs, daW, b2, i2]
    exact ⟨by decide, by omega⟩
theorem frozen_eq (hS : Clo S) {op : Op} {g : List Str} (h : okO g op = true) (hn : dep op + 4 ≤ n) : F n .f_frozen [wO op] S = .ok (wO (fz op)) S := by
  obtain ⟨a, b, c⟩ := frz_O h
  rw [← a]
  exact frozenW_eq hS n _ (by omega) b
end Sh

set_option Elab.async false
set_option linter.all false
set_option maxRecDepth 100000
set_option maxHeartbeats 4000000
namespace Sh
open PySem L2
variable {n : Nat} {S J : Store}
def parts : Op → Nat
  | .non _ => 1
  | .give _ _ _ => 1
  | .each _ _ _ b => parts b + 1
  | .alt _ a b => parts a + parts b + 1
  | .cond _ _ _ _ _ b => parts b + 1
  | .last _ _ _ b => parts b + 1
structure Sp where
  op : Op
  pl : List W
  prs : List W
  ts : List W
def ent (s : Sp) : W := .tup [.tup s.pl, wO s.op, .tup s.prs, .tup s.ts]
def prW (x r : Str) : W := .tup [.str x, .str r]
/-- all parts with their places, pairs and tests, each ahead of what is in it -/
def sv (op : Op) (pl prs ts : List W) : List Sp := ⟨op, pl, prs, ts⟩ :: match op with
  | .non _ => []
  | .give _ _ _ => []
  | .each _ x r b => sv b (pl ++ [.int 3]) (prs ++ [prW x r]) ts
  | .alt _ a b => sv a (pl ++ [.int 1]) prs ts ++ sv b (pl ++ [.int 2]) prs ts
  | .cond _ g t i j b => sv b (pl ++ [.int 2]) prs (ts ++ [mkR g [.str (tw t), wI i, wI j]])
  | .last _ _ _ b => sv b (pl ++ [.int 3]) prs ts
def svS (s : Sp) : List Sp := sv s.op s.pl s.prs s.ts
/-- what comes on the stack, the first one on top -/
def kids (s : Sp) : List Sp := match s.op with
  | .non _ => []
  | .give _ _ _ => []
  | .each _ x r b => [⟨b, s.pl ++ [.int 3], s.prs ++ [prW x r], s.ts⟩]
  | .alt _ a b => [⟨a, s.pl ++ [.int 1], s.prs, s.ts⟩, ⟨b, s.pl ++ [.int 2], s.prs, s.ts⟩]
  | .cond _ g t i j b => [⟨b, s.pl ++ [.int 2], s.prs, s.ts ++ [mkR g [.str (tw t), wI i, wI j]]⟩]
  | .last _ _ _ b => [⟨b, s.pl ++ [.int 3], s.prs, s.ts⟩]
theorem svS_kids (s : Sp) : svS s = s :: (kids s).flatMap svS := by
  obtain ⟨op, pl, prs, ts⟩ := s
  cases op <;> simp [svS, kids, sv]
theorem parts_pos : ∀ op : Op, 1 ≤ parts op := fun op => by cases op <;> simp only [parts] <;> omega
theorem sv_len : ∀ (op : Op) (pl prs ts : List W), (sv op pl prs ts).length = parts op
  | .non _, _, _, _ => by simp [sv, parts]
  | .give _ _ _, _, _, _ => by simp [sv, parts]
  | .each _ _ _ b, _, _, _ => by simp [sv, parts, sv_len b]
  | .alt _ a b, _, _, _ => by simp [sv, parts, sv_len a, sv_len b]
  | .cond _ _ _ _ _ b, _, _, _ => by simp [sv, parts, sv_len b]
  | .last _ _ _ b, _, _, _ => by simp [sv, parts, sv_len b]
def smS (st : List Sp) : Nat := (st.map fun s => parts s.op).sum
theorem sm_kids (s : Sp) : smS (kids s) + 1 = parts s.op := by
  obtain ⟨op, pl, prs, ts⟩ := s
  cases op <;> simp [smS, kids, parts]
theorem sm_len : ∀ st : List Sp, st.length ≤ smS st
  | [] => Nat.le_refl _
  | s :: st => by
    have := sm_len st
    have := parts_pos s.op
    simp only [smS, List.map_cons, List.sum_cons, List.length_cons] at *
    omega
def bdS (s : Sp) : Prop := s.pl.length + dep s.op ≤ 500 ∧ s.prs.length + dep s.op ≤ 500 ∧ s.ts.length + dep s.op ≤ 500
theorem bd_kids {s : Sp} (h : bdS s) : ∀ k ∈ kids s, bdS k := by
  obtain ⟨op, pl, prs, ts⟩ := s
  cases op <;> simp only [bdS, dep, kids] at h ⊢ <;> simp <;> omega
/-! ### the second list on top of the store -/
section
variable {F acc : List W} {x : W}
@[simp] theorem acc1_ty : tyM "list" (.ref (S.length + 1)) (S ++ [.lst F, .lst acc]) = true := by simp [tyM]
@[simp] theorem acc1_append : appendM (.ref (S.length + 1)) [x] (S ++ [.lst F, .lst acc]) = if acc.length < sizeLine then some (.non, S ++ [.lst F, .lst (acc ++ [x])]) else none := by
  simp [appendM, List.set_append]
  rfl
@[simp] theorem acc1_pop : popM (.ref (S.length + 1)) [] (S ++ [.lst F, .lst (acc ++ [x])]) = some (x, S ++ [.lst F, .lst acc]) := by
  simp [popM, List.set_append]
@[simp] theorem acc1_tru : truW (.ref (S.length + 1)) (S ++ [.lst F, .lst acc]) = some (!acc.isEmpty) := by simp [truW]
end
theorem wO_low {n : Nat} {op : Op} (h : daW (wO op) = true) : lowW n (wO op) = true := da_low h
def lowSp (n : Nat) (s : Sp) : Prop := lowW n (ent s) = true
def InvS (op : Op) (S : Store) (m : Nat) (e : En) (S' : Store) : Prop := ∃ (Fd : List Sp) (st : List Sp) (x3 x4 x5 x6 x7 : Option W), S' = S ++ [.lst (Fd.map ent), .lst (st.reverse.map ent)] ∧ e = [some (wO op), some (.ref S.length), some (.ref (S.length + 1)), x3, x4, x5, x6, x7] ∧ Fd ++ st.flatMap svS = sv op [] [] [] ∧ m = smS st ∧ Fd.length + m = parts op ∧ ∀ s ∈ st, bdS s
theorem surveyed_eq (hS : Clo S) {op : Op} (hp : parts op ≤ 1000) (hd : dep op ≤ 400) (hlow : lowWs S.length ((sv op [] [] []).map ent) = true) :
    F (n + 1) .f_surveyed [wO op] S = .ok (.lst ((sv op [] [] []).map ent)) S := by
  rw [F_surveyed]
  simp [b_surveyed]
  refine fin_while (InvS op S)
    (parts op) (by have := fuel_ge; omega) ⟨[], [⟨op, [], [], []⟩], none, none, none, none, none, by simp [ent], rfl, by simp [svS], by simp [smS], by simp, by simp [bdS]; omega⟩ ?_
  rintro m e S' ⟨Fd, st, x3, x4, x5, x6, x7, rfl, rfl, hf, hm, hl, hb⟩
  cases st with
  | nil =>
    refine ⟨false, S ++ [.lst (Fd.map ent), .lst []], by simp, .inl ⟨rfl, ?_⟩⟩
    simp at hf
    simp only [sRet_ap, eVar_ap, List.getElem?_cons_succ, List.getElem?_cons_zero, R.thn_ok, fin_ret, hf]
    exact cut_lst (J := [.lst []]) hS hlow
  | cons s st =>
    refine ⟨true, S ++ [.lst (Fd.map ent), .lst (st.reverse.map ent ++ [ent s])], by simp, .inr ⟨rfl, smS st + smS (kids s), ?_, ?_⟩⟩
    · have := sm_kids s
      simp only [smS, List.map_cons, List.sum_cons] at hm this ⊢
      omega
    · have hsl := sm_len st
      have hks := sm_kids s
      have hpos := parts_pos s.op
      have hsum : smS (s :: st) = parts s.op + smS st := by simp [smS]
      have hbs := hb s List.mem_cons_self
      have hF : Fd.length < 16777216 := by omega
      have hst : st.length < 16777216 := by omega
      have hst1 : st.length + 1 < 16777216 := by omega
      have inv : ∀ (e' : En) (S'' : Store) (x3 x4 x5 x6 x7 : Option W), S'' = S ++ [.lst ((Fd ++ [s]).map ent), .lst ((kids s ++ st).reverse.map ent)] → e' = [some (wO op), some (.ref S.length), some (.ref (S.length + 1)), x3, x4, x5, x6, x7] →
          InvS op S (smS st + smS (kids s)) e' S'' := by
        intro e' S'' x3 x4 x5 x6 x7 e1 e2
        refine ⟨Fd ++ [s], kids s ++ st, x3, x4, x5, x6, x7, e1, e2, ?_, ?_, ?_, ?_⟩
        · rw [← hf, List.flatMap_append, List.flatMap_cons, svS_kids s]; simp
        · simp [smS]; omega
        · simp; omega
        · intro k hk
          rcases List.mem_append.mp hk with hk | hk
          · exact bd_kids hbs k hk
          · exact hb k (List.mem_cons_of_mem _ hk)
      obtain ⟨sop, pl, prs, ts⟩ := s
      simp only [bdS] at hbs
      obtain ⟨hb1, hb2, hb3⟩ := hbs
      cases sop with
      | non f =>
        simp [ent, wO, hF]
        refine inv _ _ _ _ _ _ _ ?_ rfl
        simp [kids, ent, wO]
      | give f g is =>
        simp [ent, wO, hF]
        refine inv _ _ _ _ _ _ _ ?_ rfl
        simp [kids, ent, wO]
      | each f x r b =>
        simp only [dep] at hb1 hb2 hb3
        have k1 : pl.length + 1 ≤ 16777216 := by omega
        have k2 : prs.length + 1 ≤ 16777216 := by omega
        simp [ent, wO, hF, hst, k1, k2]
        refine inv _ _ _ _ _ _ _ ?_ rfl
        simp [kids, ent, wO, prW]
      | alt f a b =>
        simp only [dep] at hb1 hb2 hb3
        have k1 : pl.length + 1 ≤ 16777216 := by omega
        simp [ent, wO, hF, hst, hst1, k1]
        refine inv _ _ _ _ _ _ _ ?_ rfl
        simp [kids, ent, wO]
      | cond f g t i j b =>
        simp only [dep] at hb1 hb2 hb3
        have k1 : pl.length + 1 ≤ 16777216 := by omega
        have k2 : ts.length + 1 ≤ 16777216 := by omega
        simp [ent, wO, hF, hst, k1, k2]
        refine inv _ _ _ _ _ _ _ ?_ rfl
        simp [kids, ent, wO]
      | last f v i b =>
        simp only [dep] at hb1 hb2 hb3
        have k1 : pl.length + 1 ≤ 16777216 := by omega
        simp [ent, wO, hF, hst, k1]
        refine inv _ _ _ _ _ _ _ ?_ rfl
        simp [kids, ent, wO]
end Sh

set_option Elab.async false
set_option linter.all false
set_option maxRecDepth 100000
set_option maxHeartbeats 4000000
namespace Sh
open PySem L2
variable {n : Nat} {S J : Store}
/-! ### comprehensions over what was surveyed -/
theorem sv_lc {L : List Sp} {i1 i2 i3 i4 : Nat} {t : TM} {a : EM} {e0 : En} (p : Sp → Bool) (h : Sp → W) (hl : L.length ≤ 1000)
    (ht : ∀ s ∈ L, t (setVars [i1, i2, i3, i4] [.tup s.pl, wO s.op, .tup s.prs, .tup s.ts] e0) S = .ok (p s) S)
    (ha : ∀ s ∈ L, p s = true → a (setVars [i1, i2, i3, i4] [.tup s.pl, wO s.op, .tup s.prs, .tup s.ts] e0) S = .ok (h s) S) :
    lcN (itT (L.map ent)) (gRow [i1, i2, i3, i4]) t a e0 fuel 0 [] S = .ok ((L.filter p).map h) S := by
  obtain ⟨xs, S', h1, h2, h3, h4⟩ := lcN_inv (J := itT (L.map ent)) (g := gRow [i1, i2, i3, i4]) (t := t) (a := a) (e0 := e0) (fun i acc S' => S' = S ∧ i ≤ L.length ∧ acc = ((L.take i).filter p).map h) L.length (fun i acc S h => h.2.1) (by
    rintro i acc S' ⟨rfl, hi, rfl⟩
    by_cases hil : i < L.length
    · right
      obtain ⟨s, hs⟩ : ∃ s, L[i]? = some s := ⟨_, List.getElem?_eq_getElem hil⟩
      have hm := List.mem_of_getElem? hs
      refine ⟨ent s, _, S', p s, S', by simp [itT, hs], rfl, ht s hm, ?_⟩
      have hnext : ((L.take (i + 1)).filter p).map h = ((L.take i).filter p).map h ++ (if p s = true then [h s] else []) := by
        rw [List.take_add_one, hs]
        simp only [Option.toList_some, List.filter_append, List.map_append]
        congr 1
        cases hp : p s <;> simp [hp]
      have hlen : (((L.take i).filter p).map h).length < sizeLine := by
        have := List.length_filter_le p (L.take i)
        rw [List.length_take] at this
        rw [List.length_map]
        simp only [szl]
        omega
      cases hp : p s with
      | false => left; rw [hnext, hp]; exact ⟨rfl, rfl, hil, by simp⟩
      | true => right; rw [hnext, hp]; exact ⟨rfl, h s, S', ha s hm hp, hlen, rfl, hil, by simp⟩
    · left
      have hie : i = L.length := by omega
      exact ⟨by simp [itT, hie], hie⟩) fuel 0 [] S (by have := fuel_ge; omega) ⟨rfl, Nat.zero_le _, by simp⟩
  rw [h1, h2, h4, List.take_length]
theorem sv_eLc {m : Bool} {L : List Sp} {i1 i2 i3 i4 : Nat} {it : IM} {own : List Nat} {t : TM} {a : EM} {e : En} (p : Sp → Bool) (h : Sp → W) (hl : L.length ≤ 1000) (hi : it e S = .ok (itT (L.map ent)) S)
    (ht : ∀ s ∈ L, t (setVars [i1, i2, i3, i4] [.tup s.pl, wO s.op, .tup s.prs, .tup s.ts] (wipeE e own)) S = .ok (p s) S)
    (ha : ∀ s ∈ L, p s = true → a (setVars [i1, i2, i3, i4] [.tup s.pl, wO s.op, .tup s.prs, .tup s.ts] (wipeE e own)) S = .ok (h s) S) :
    eLc m it own (gRow [i1, i2, i3, i4]) t a e S = .ok (mkL m ((L.filter p).map h) S).1 (mkL m ((L.filter p).map h) S).2 := by
  simp only [eLc, hi, R.bind_ok, sv_lc p h hl ht ha, R.noexc]
def dedS (xs : List Str) : List Str := xs.foldl (fun ks k => if k ∈ ks then ks else ks ++ [k]) []
theorem ded_map (xs : List Str) : dedupK (xs.map Sum.inr) = (dedS xs).map Sum.inr := by
  have gen : ∀ (xs : List Str) (acc : List Str), (xs.map Sum.inr).foldl addK (acc.map Sum.inr : List Key) = (xs.foldl (fun ks k => if k ∈ ks then ks else ks ++ [k]) acc).map Sum.inr := by
    intro xs
    induction xs with
    | nil => intro acc; rfl
    | cons x xs ih =>
      intro acc
      simp only [List.map_cons, List.foldl_cons]
      rw [← ih]
      congr 1
      unfold addK
      by_cases h : x ∈ acc
      · rw [if_pos h, if_pos (List.mem_map_of_mem h)]
      · rw [if_neg h, if_neg (fun z => by obtain ⟨y, hy, e⟩ := List.mem_map.mp z; cases e; exact h hy)]
        simp
  exact gen xs []
theorem keysW_strs : ∀ xs : List Str, keysW (xs.map W.str) = some (xs.map Sum.inr)
  | [] => rfl
  | x :: xs => by simp only [List.map_cons, keysW, keysW_strs xs, keyW]
theorem ded_len (xs : List Str) : (dedS xs).length ≤ xs.length := by
  have := dedup_len (xs.map Sum.inr)
  rw [ded_map] at this
  simpa using this
theorem sv_skM {L : List Sp} {i1 i2 i3 i4 : Nat} {it : IM} {own : List Nat} {t : TM} {a : EM} {e : En} (p : Sp → Bool) (h : Sp → Str) (hl : L.length ≤ 1000) (hi : it e S = .ok (itT (L.map ent)) S)
    (ht : ∀ s ∈ L, t (setVars [i1, i2, i3, i4] [.tup s.pl, wO s.op, .tup s.prs, .tup s.ts] (wipeE e own)) S = .ok (p s) S)
    (ha : ∀ s ∈ L, p s = true → a (setVars [i1, i2, i3, i4] [.tup s.pl, wO s.op, .tup s.prs, .tup s.ts] (wipeE e own)) S = .ok (.str (h s)) S) :
    skM it own (gRow [i1, i2, i3, i4]) t a e S = .ok ((dedS ((L.filter p).map h)).map Sum.inr) S := by
  have h2 : (L.filter p).map (fun s => W.str (h s)) = ((L.filter p).map h).map W.str := by rw [List.map_map]; rfl
  have hlen : ((L.filter p).map h).length + 1 < scanBound := by
    have := List.length_filter_le p L
    rw [List.length_map]
    unfold scanBound
    omega
  simp only [skM, hi, R.bind_ok, sv_lc p (fun s => .str (h s)) hl ht ha, R.noexc, h2, keysW_strs, List.length_map]
  rw [List.length_map] at hlen
  rw [if_pos hlen, ded_map]
/-! ### the kinds -/
def kw : Op → Str
  | .non _ => "none"
  | .give _ _ _ => "give"
  | .each _ _ _ _ => "each"
  | .alt _ _ _ => "choice"
  | .cond _ _ _ _ _ _ => "when"
  | .last _ _ _ _ => "last"
theorem get_kw {G : GD} {op : Op} : getW G (wO op) (.int 0) S = some (.str (kw op), S) := by
  cases op <;> simp [wO, kw]
def rowOf : Op → Str
  | .each _ _ r _ => r
  | _ => ⟨#[]⟩
def keptOf : Op → Str
  | .last _ v _ _ => v
  | _ => ⟨#[]⟩
def isEach : Op → Bool
  | .each _ _ _ _ => true
  | _ => false
def isLast : Op → Bool
  | .last _ _ _ _ => true
  | _ => false
def isGive : Op → Bool
  | .give _ _ _ => true
  | _ => false
@[simp] theorem isEach_non (f : Bool) : isEach (.non f) = false := rfl
@[simp] theorem isEach_give (f g : Bool) (is : List It) : isEach (.give f g is) = false := rfl
@[simp] theorem isEach_each (f : Bool) (x r : Str) (b : Op) : isEach (.each f x r b) = true := rfl
@[simp] theorem isEach_alt (f : Bool) (a b : Op) : isEach (.alt f a b) = false := rfl
@[simp] theorem isEach_cond (f g t : Bool) (i j : It) (b : Op) : isEach (.cond f g t i j b) = false := rfl
@[simp] theorem isEach_last (f : Bool) (v : Str) (i : It) (b : Op) : isEach (.last f v i b) = false := rfl
@[simp] theorem isLast_non (f : Bool) : isLast (.non f) = false := rfl
@[simp] theorem isLast_give (f g : Bool) (is : List It) : isLast (.give f g is) = false := rfl
@[simp] theorem isLast_each (f : Bool) (x r : Str) (b : Op) : isLast (.each f x r b) = false := rfl
@[simp] theorem isLast_alt (f : Bool) (a b : Op) : isLast (.alt f a b) = false := rfl
@[simp] theorem isLast_cond (f g t : Bool) (i j : It) (b : Op) : isLast (.cond f g t i j b) = false := rfl
@[simp] theorem isLast_last (f : Bool) (v : Str) (i : It) (b : Op) : isLast (.last f v i b) = true := rfl
@[simp] theorem isGive_non (f : Bool) : isGive (.non f) = false := rfl
@[simp] theorem isGive_give (f g : Bool) (is : List It) : isGive (.give f g is) = true := rfl
@[simp] theorem isGive_each (f : Bool) (x r : Str) (b : Op) : isGive (.each f x r b) = false := rfl
@[simp] theorem isGive_alt (f : Bool) (a b : Op) : isGive (.alt f a b) = false := rfl
@[simp] theorem isGive_cond (f g t : Bool) (i j : It) (b : Op) : isGive (.cond f g t i j b) = false := rfl
@[simp] theorem isGive_last (f : Bool) (v : Str) (i : It) (b : Op) : isGive (.last f v i b) = false := rfl
@[simp] theorem rowOf_each (f : Bool) (x r : Str) (b : Op) : rowOf (.each f x r b) = r := rfl
@[simp] theorem keptOf_last (f : Bool) (v : Str) (i : It) (b : Op) : keptOf (.last f v i b) = v := rfl
@[simp] theorem kw_each {op : Op} : decide (kw op = ⟨#[101, 97, 99, 104]⟩) = isEach op := by cases op <;> simp [kw, isEach]
@[simp] theorem kw_last {op : Op} : decide (kw op = ⟨#[108, 97, 115, 116]⟩) = isLast op := by cases op <;> simp [kw, isLast]
@[simp] theorem kw_give {op : Op} : decide (kw op = ⟨#[103, 105, 118, 101]⟩) = isGive op := by cases op <;> simp [kw, isGive]
theorem get_row {G : GD} {op : Op} (h : isEach op = true) : getW G (wO op) (.int 2) S = some (.str (rowOf op), S) := by
  cases op <;> first | (cases h; done) | simp [wO, rowOf]
theorem get_kept {G : GD} {op : Op} (h : isLast op = true) : getW G (wO op) (.int 1) S = some (.str (keptOf op), S) := by
  cases op <;> first | (cases h; done) | simp [wO, keptOf]
def rowsL : Op → List Str
  | .non _ => []
  | .give _ _ _ => []
  | .each _ _ r b => r :: rowsL b
  | .alt _ a b => rowsL a ++ rowsL b
  | .cond _ _ _ _ _ b => rowsL b
  | .last _ _ _ b => rowsL b
def keptL : Op → List Str
  | .non _ => []
  | .give _ _ _ => []
  | .each _ _ _ b => keptL b
  | .alt _ a b => keptL a ++ keptL b
  | .cond _ _ _ _ _ b => keptL b
  | .last _ v _ b => v :: keptL b
def mxN : Op → Nat
  | .non _ => 0
  | .give _ _ _ => 0
  | .each _ _ _ b => mxN b + 1
  | .alt _ a b => max (mxN a) (mxN b)
  | .cond _ _ _ _ _ b => mxN b
  | .last _ _ _ b => mxN b
def gives : Op → Nat
  | .non _ => 0
  | .give _ _ _ => 1
  | .each _ _ _ b => gives b
  | .alt _ a b => gives a + gives b
  | .cond _ _ _ _ _ b => gives b
  | .last _ _ _ b => gives b
theorem sv_rows : ∀ (op : Op) (pl prs ts : List W), ((sv op pl prs ts).filter fun s => isEach s.op).map (fun s => rowOf s.op) = rowsL op
  | .non _, _, _, _ => by simp [List.filter_cons, sv, rowsL]
  | .give _ _ _, _, _, _ => by simp [List.filter_cons, sv, rowsL]
  | .each _ _ _ b, _, _, _ => by simp [List.filter_cons, sv, rowsL, sv_rows b]
  | .alt _ a b, _, _, _ => by simp [List.filter_cons, sv, rowsL, sv_rows a, sv_rows b]
  | .cond _ _ _ _ _ b, _, _, _ => by simp [List.filter_cons, sv, rowsL, sv_rows b]
  | .last _ _ _ b, _, _, _ => by simp [List.filter_cons, sv, rowsL, sv_rows b]
theorem sv_kept : ∀ (op : Op) (pl prs ts : List W), ((sv op pl prs ts).filter fun s => isLast s.op).map (fun s => keptOf s.op) = keptL op
  | .non _, _, _, _ => by simp [List.filter_cons, sv, keptL]
  | .give _ _ _, _, _, _ => by simp [List.filter_cons, sv, keptL]
  | .each _ _ _ b, _, _, _ => by simp [List.filter_cons, sv, keptL, sv_kept b]
  | .alt _ a b, _, _, _ => by simp [List.filter_cons, sv, keptL, sv_kept a, sv_kept b]
  | .cond _ _ _ _ _ b, _, _, _ => by simp [List.filter_cons, sv, keptL, sv_kept b]
  | .last _ _ _ b, _, _, _ => by simp [List.filter_cons, sv, keptL, sv_kept b]
theorem sv_gives : ∀ (op : Op) (pl prs ts : List W), ((sv op pl prs ts).filter fun s => isGive s.op).length = gives op
  | .non _, _, _, _ => by simp [List.filter_cons, sv, gives]
  | .give _ _ _, _, _, _ => by simp [List.filter_cons, sv, gives]
  | .each _ _ _ b, _, _, _ => by simp [List.filter_cons, sv, gives, sv_gives b]
  | .alt _ a b, _, _, _ => by simp [List.filter_cons, sv, gives, sv_gives a, sv_gives b]
  | .cond _ _ _ _ _ b, _, _, _ => by simp [List.filter_cons, sv, gives, sv_gives b]
  | .last _ _ _ b, _, _, _ => by simp [List.filter_cons, sv, gives, sv_gives b]
theorem sv_mx : ∀ (op : Op) (pl prs ts : List W), (∃ s ∈ sv op pl prs ts, s.prs.length = prs.length + mxN op) ∧ ∀ s ∈ sv op pl prs ts, s.prs.length ≤ prs.length + mxN op
  | .non _, _, _, _ => by simp [sv, mxN]
  | .give _ _ _, _, _, _ => by simp [sv, mxN]
  | .each _ x r b, pl, prs, ts => by
    obtain ⟨⟨s, h1, h2⟩, h3⟩ := sv_mx b (pl ++ [.int 3]) (prs ++ [prW x r]) ts
    simp only [List.length_append, List.length_singleton] at h2 h3
    refine ⟨⟨s, by simp [sv, h1], by simp only [mxN]; omega⟩, fun s hs => ?_⟩
    simp only [sv, List.mem_cons] at hs
    rcases hs with rfl | hs
    · simp
    · have := h3 s hs; simp only [mxN]; omega
  | .alt _ a b, pl, prs, ts => by
    obtain ⟨⟨s, h1, h2⟩, h3⟩ := sv_mx a (pl ++ [.int 1]) prs ts
    obtain ⟨⟨s', h1', h2'⟩, h3'⟩ := sv_mx b (pl ++ [.int 2]) prs ts
    refine ⟨?_, fun s hs => ?_⟩
    · by_cases h : mxN b ≤ mxN a
      · exact ⟨s, by simp [sv, h1], by simp only [mxN]; omega⟩
      · exact ⟨s', by simp [sv, h1'], by simp only [mxN]; omega⟩
    · simp only [sv, List.mem_cons, List.mem_append] at hs
      rcases hs with rfl | hs | hs
      · simp
      · have := h3 s hs; simp only [mxN]; omega
      · have := h3' s hs; simp only [mxN]; omega
  | .cond _ g t i j b, pl, prs, ts => by
    obtain ⟨⟨s, h1, h2⟩, h3⟩ := sv_mx b (pl ++ [.int 2]) prs (ts ++ [mkR g [.str (tw t), wI i, wI j]])
    refine ⟨⟨s, by simp [sv, h1], by simp only [mxN]; omega⟩, fun s hs => ?_⟩
    simp only [sv, List.mem_cons] at hs
    rcases hs with rfl | hs
    · simp
    · have := h3 s hs; simp only [mxN]; omega
  | .last _ _ _ b, pl, prs, ts => by
    obtain ⟨⟨s, h1, h2⟩, h3⟩ := sv_mx b (pl ++ [.int 3]) prs ts
    refine ⟨⟨s, by simp [sv, h1], by simp only [mxN]; omega⟩, fun s hs => ?_⟩
    simp only [sv, List.mem_cons] at hs
    rcases hs with rfl | hs
    · simp
    · have := h3 s hs; simp only [mxN]; omega
theorem sv_max (op : Op) : maxI ((sv op [] [] []).map fun s => (s.prs.length : Int)) = mxN op := by
  obtain ⟨⟨s, h1, h2⟩, h3⟩ := sv_mx op [] [] []
  simp only [List.length_nil, Nat.zero_add] at h2 h3
  have hm : (mxN op : Int) ∈ (sv op [] [] []).map fun s => (s.prs.length : Int) := List.mem_map.mpr ⟨s, h1, by rw [h2]⟩
  cases hl : (sv op [] [] []).map fun s => (s.prs.length : Int) with
  | nil => rw [hl] at hm; simp at hm
  | cons x xs =>
    rw [hl] at hm
    refine (maxI_eq hm fun y hy => ?_).symm
    rw [← hl] at hy
    obtain ⟨s', hs', rfl⟩ := List.mem_map.mp hy
    have := h3 s' hs'
    omega
theorem maxLN_ints {m : Bool} {xs : List Int} (h : xs ≠ []) : maxLN [.lst (xs.map W.int)] S = some (.int (maxI xs), S) := by
  cases xs with
  | nil => exact absurd rfl h
  | cons x xs =>
    simp only [maxLN, lsW_lst]
    rw [intsL_map]
end Sh

set_option Elab.async false
set_option linter.all false
set_option maxRecDepth 100000
set_option maxHeartbeats 4000000
namespace Sh
open PySem L2
variable {n : Nat} {S J : Store}
theorem low_app {n : Nat} {a b : List W} (ha : lowWs n a = true) (hb : lowWs n b = true) : lowWs n (a ++ b) = true := lowWs_all.mpr fun q hq => by
  rcases List.mem_append.mp hq with h | h
  · exact lowWs_all.mp ha q h
  · exact lowWs_all.mp hb q h
theorem low_ent {n : Nat} {s : Sp} (h1 : lowWs n s.pl = true) (h2 : daW (wO s.op) = true) (h3 : lowWs n s.prs = true) (h4 : lowWs n s.ts = true) : lowW n (ent s) = true := by
  simp only [ent, lowW, lowWs, h1, da_low h2, h3, h4, Bool.and_self]
theorem sv_low {m : Nat} : ∀ (op : Op) (g : List Str) (pl prs ts : List W), okO g op = true → lowWs m pl = true → lowWs m prs = true → lowWs m ts = true → lowWs m ((sv op pl prs ts).map ent) = true
  | op, g, pl, prs, ts, h, h1, h2, h3 => by
    have h0 : lowW m (ent ⟨op, pl, prs, ts⟩) = true := low_ent h1 (frz_O h).2.1 h2 h3
    cases op with
    | non f => simp only [sv, List.map_cons, List.map_nil, lowWs, h0, Bool.and_self]
    | give f gg is => simp only [sv, List.map_cons, List.map_nil, lowWs, h0, Bool.and_self]
    | each f x r b =>
      simp only [okO, Bool.and_eq_true] at h
      simp only [sv, List.map_cons, lowWs, h0, Bool.true_and]
      exact sv_low b _ _ _ _ h.2.2 (low_app h1 rfl) (low_app h2 rfl) h3
    | alt f a b =>
      simp only [okO, Bool.and_eq_true] at h
      simp only [sv, List.map_cons, List.map_append, lowWs, h0, Bool.true_and]
      exact low_app (sv_low a _ _ _ _ h.1 (low_app h1 rfl) h2 h3) (sv_low b _ _ _ _ h.2 (low_app h1 rfl) h2 h3)
    | cond f gg t i j b =>
      simp only [okO, Bool.and_eq_true] at h
      simp only [sv, List.map_cons, lowWs, h0, Bool.true_and]
      refine sv_low b _ _ _ _ h.2 (low_app h1 rfl) h2 (low_app h3 ?_)
      simp only [lowWs, low_mk, lowW, da_low (frz_I h.1.1).2.1, da_low (frz_I h.1.2).2.1, Bool.and_self]
    | last f v i b =>
      simp only [okO, Bool.and_eq_true] at h
      simp only [sv, List.map_cons, lowWs, h0, Bool.true_and]
      exact sv_low b _ _ _ _ h.2 (low_app h1 rfl) h2 h3
theorem surv_eq (hS : Clo S) {op : Op} {g : List Str} (h : okO g op = true) (hp : parts op ≤ 1000) (hd : dep op ≤ 400) : F (n + 1) .f_surveyed [wO op] S = .ok (.lst ((sv op [] [] []).map ent)) S :=
  surveyed_eq hS hp hd (sv_low op g [] [] [] h rfl rfl rfl)
def bnd (op : Op) : Bool := decide (dep op ≤ 12) && (decide (parts op ≤ 40) && (decide (mxN op ≤ 3) && (decide ((dedS (rowsL op)).length ≤ 3) && decide ((dedS (keptL op)).length ≤ 3))))
theorem nil_map {op : Op} : (sv op [] [] []).map (fun s => (s.prs.length : Int)) ≠ [] := by
  cases op <;> simp [sv]
theorem within_bounds_eq (hS : Clo S) {op : Op} {g : List Str} (h : okO g op = true) (hp : parts op ≤ 1000) (hd : dep op ≤ 400) (hn : dep op + 2 ≤ n) : F n .f_within_bounds [wO op] S = .ok (.bl (bnd op)) S := by
  obtain ⟨n, rfl⟩ : ∃ m, n = m + 2 := ⟨n - 2, by omega⟩
  have h1 := depth_eq hS op (n + 1) (by omega)
  have h2 := surv_eq (n := n) hS h hp hd
  have hl := sv_len op [] [] []
  have ll : (sv op [] [] []).length ≤ 1000 := by omega
  have hlc : ∀ (x2 x3 x4 x5 x6 x7 : Option W), eLc false (iE (eVar 1)) [4, 5, 6, 7] (gRow [4, 5, 6, 7]) tYesM (eN lenSN [(eVar 6)]) [some (wO op), some (.lst ((sv op [] [] []).map ent)), x2, x3, x4, x5, x6, x7] S = .ok (.lst ((sv op [] [] []).map fun s => W.int s.prs.length)) S := fun x2 x3 x4 x5 x6 x7 => by
    have := sv_eLc (m := false) (S := S) (L := sv op [] [] []) (i1 := 4) (i2 := 5) (i3 := 6) (i4 := 7) (it := iE (eVar 1)) (own := [4, 5, 6, 7]) (t := tYesM) (a := eN lenSN [(eVar 6)]) (e := [some (wO op), some (.lst ((sv op [] [] []).map ent)), x2, x3, x4, x5, x6, x7]) (fun _ => true) (fun s => .int s.prs.length) ll (by simp [iE]) (fun s hs => rfl) (fun s hs _ => by simp [wipeE])
    rw [this, List.filter_eq_self.mpr (fun _ _ => rfl)]
    rfl
  have hmx : maxLN [.lst ((sv op [] [] []).map fun s => W.int s.prs.length)] S = some (.int (mxN op), S) := by
    have := maxLN_ints (m := false) (S := S) (nil_map (op := op))
    rw [List.map_map, sv_max] at this
    exact this
  have hrw : ∀ (x2 x3 x4 x5 x6 x7 : Option W), skM (iE (eVar 1)) [4, 5, 6, 7] (gRow [4, 5, 6, 7]) (tB (e2 eqW (e2 (getW gdT) (eVar 5) (eC (.int 0))) (eC (.str ("each" : Str))))) (e2 (getW gdT) (eVar 5) (eC (.int 2))) [some (wO op), some (.lst ((sv op [] [] []).map ent)), x2, x3, x4, x5, x6, x7] S = .ok ((dedS (rowsL op)).map Sum.inr) S := fun x2 x3 x4 x5 x6 x7 => by
    rw [← sv_rows op [] [] []]
    exact sv_skM (fun s => isEach s.op) (fun s => rowOf s.op) ll (by simp [iE]) (fun s hs => by simp [wipeE, get_kw]) (fun s hs he => by simp [wipeE, get_row he])
  have hkp : ∀ (x2 x3 x4 x5 x6 x7 : Option W), skM (iE (eVar 1)) [4, 5, 6, 7] (gRow [4, 5, 6, 7]) (tB (e2 eqW (e2 (getW gdT) (eVar 5) (eC (.int 0))) (eC (.str ("last" : Str))))) (e2 (getW gdT) (eVar 5) (eC (.int 1))) [some (wO op), some (.lst ((sv op [] [] []).map ent)), x2, x3, x4, x5, x6, x7] S = .ok ((dedS (keptL op)).map Sum.inr) S := fun x2 x3 x4 x5 x6 x7 => by
    rw [← sv_kept op [] [] []]
    exact sv_skM (fun s => isLast s.op) (fun s => keptOf s.op) ll (by simp [iE]) (fun s hs => by simp [wipeE, get_kw]) (fun s hs he => by simp [wipeE, get_kept he])
  simp at hrw hkp
  rw [F_within_bounds]
  unfold bnd
  by_cases hd12 : dep op ≤ 12
  · have c1 : ¬ (12 : Int) < (dep op : Int) := by omega
    by_cases hp40 : parts op ≤ 40
    · have c2 : ¬ (40 : Int) < (parts op : Int) := by omega
      by_cases hm : mxN op ≤ 3
      · have c3 : ¬ (3 : Int) < (mxN op : Int) := by omega
        simp [b_within_bounds, h1, h2, hl, hlc, hmx, eSz, hrw, hkp, hd12, hp40, hm, c1, c2, c3, hS]
        have e : ∀ k : Nat, decide ((k : Int) ≤ 3) = decide (k ≤ 3) := fun k => decide_eq_decide.mpr (by omega)
        rw [e, e]
      · have c3 : (3 : Int) < (mxN op : Int) := by omega
        simp [b_within_bounds, h1, h2, hl, hlc, hmx, c1, c2, c3, hm, hS]
    · have c2 : (40 : Int) < (parts op : Int) := by omega
      simp [b_within_bounds, h1, h2, hl, c1, c2, hp40, hS]
  · have c1 : (12 : Int) < (dep op : Int) := by omega
    simp [b_within_bounds, h1, c1, hd12, hS]
end Sh

set_option Elab.async false
set_option linter.all false
set_option maxRecDepth 100000
set_option maxHeartbeats 4000000
namespace Sh
open PySem L2
variable {n : Nat} {S J : Store}
@[simp] theorem sTry_ap {xs : List Str} {sub : Str → Str → Bool} {b : SM} {l : List HM} {e : En} : sTry xs sub b l e S = match b e S with
  | .exc x e1 S1 => if x.cls ∈ xs then handM sub l x e1 S1 else .bad
  | r => r := rfl
@[simp] theorem hand_nil {sub : Str → Str → Bool} {x : Exn} {e : En} : handM sub [] x e S = .exc x e S := rfl
@[simp] theorem hand_cons {sub : Str → Str → Bool} {p : HM} {l : List HM} {x : Exn} {e : En} : handM sub (p :: l) x e S = if sub x.cls p.1 = true then (match p.2.1 with
    | none => noX (p.2.2 x e S)
    | some i => if i < e.length then goneS i (p.2.2 x (e.set i none) S) else .bad) else handM sub l x e S := rfl
@[simp] theorem noX_nx {e : En} : noX (.nx e S) = .nx e S := rfl
@[simp] theorem noX_ret {w : W} : noX (.ret w S) = .ret w S := rfl
@[simp] theorem goneS_nx {i : Nat} {e : En} : goneS i (.nx e S) = .nx (e.set i none) S := rfl
@[simp] theorem sXT_ap {j : Nat} {fs : List XF} {x : Exn} {e : En} : sXT j fs x e S = match evF fs x with
  | some ws => if ws.length ≤ sizeLine then .nx (e.set j (some (.tup ws))) S else .bad
  | none => .bad := rfl
@[simp] theorem sXV_ap {j : Nat} {f : XF} {x : Exn} {e : En} : sXV j f x e S = match f x with
  | some w => .nx (e.set j (some w)) S
  | none => .bad := rfl
@[simp] theorem evF_nil {x : Exn} : evF [] x = some [] := rfl
@[simp] theorem evF_cons {f : XF} {fs : List XF} {x : Exn} : evF (f :: fs) x = match f x, evF fs x with
    | some w, some ws => some (w :: ws)
    | _, _ => none := rfl
@[simp] theorem fC_ap {w : W} {x : Exn} : fC w x = some w := rfl
@[simp] theorem fAnd_ap {f g : XF} {x : Exn} : fAnd f g x = match f x with
  | some (.bl true) => g x
  | some (.bl false) => some (.bl false)
  | _ => none := rfl
@[simp] theorem fIs_ap {t : Str → Option Bool} {x : Exn} : fIs t x = if x.fs.isEmpty = true then (t x.cls).map W.bl else none := rfl
@[simp] theorem sRaiseN_ap {c : Str} {m : Nat} {ixs : List (Str × Nat)} {es : List EM} {e : En} : sRaiseN c m ixs es e S = (evs es e S).thn e fun ws S1 => if ws.length = m then .exc ⟨c, fldWs ixs ws⟩ e S1 else .bad := rfl
@[simp] theorem fIsX_ap {t : Str → Option Bool} {x : Exn} : fIsX t x = (t x.cls).map W.bl := rfl

theorem cut_tupS (hS : Clo S) {ws : List W} (h : lowWs S.length ws = true) : cutR S (.tup ws) S = .ok (.tup ws) S := cut_self hS (by simpa [lowW] using h)
def noX' (p : W) : Exn := ⟨"NoOpen", [("spot", p)]⟩
theorem no_eq {p : W} : (⟨"NoOpen", fldWs [("spot", 0)] [p]⟩ : Exn) = noX' p := rfl
theorem cutX_no (hS : Clo S) {J : Store} {p : W} (hp : lowW S.length p = true) : cutX S (noX' p) (S ++ J) = .exc (noX' p) S := by
  unfold cutX
  rw [okS_app, if_pos (by simp [noX', lowWs, hS, hp]), List.take_left]
theorem cutX_no0 (hS : Clo S) {p : W} (hp : lowW S.length p = true) : cutX S (noX' p) S = .exc (noX' p) S := by
  have := cutX_no (J := []) hS hp
  rwa [List.append_nil] at this
theorem no_spot {p : W} : fFld "spot" fcs_spot (noX' p) = some p := by
  simp only [fFld, noX', fcs_spot_NoOpen, if_true]; rfl
theorem no_cls {p : W} : (noX' p).cls = "NoOpen" := rfl
/-! ### open_fault, opened -/
def ofW (op : Op) : W := if bnd op = true then .non else .tup []
theorem open_fault_eq (hS : Clo S) {op : Op} (h : okO [] op = true) (hp : parts op ≤ 1000) (hd : dep op ≤ 400) (hn : 2 * dep op + 7 ≤ n) : F n .f_open_fault [wO op] S = .ok (ofW op) S := by
  obtain ⟨n, rfl⟩ : ∃ m, n = m + 1 := ⟨n - 1, by omega⟩
  have h1 := part_fault_eq hS op [] n h (by simp; omega) (by omega)
  have h2 := within_bounds_eq (n := n) hS h hp hd (by omega)
  simp only [List.map_nil] at h1
  rw [F_open_fault]
  unfold ofW
  cases hb : bnd op with
  | true =>
    rw [hb] at h2
    simp [b_open_fault, h1, h2, hS, isNon]
  | false =>
    rw [hb] at h2
    simp [b_open_fault, h1, h2, hS, isNon]
    exact cut_tupS hS rfl
theorem is_open_of (hS : Clo S) {w f : W} (h : F n .f_open_fault [w] S = .ok f S) : F (n + 1) .f_is_open [w] S = .ok (.bl (isNon f)) S := by
  simp [F_is_open, b_is_open, h, hS]
theorem opened_no (hS : Clo S) {w f : W} (h : F n .f_open_fault [w] S = .ok f S) (hf : isNon f = false) (hl : lowW S.length f = true) : F (n + 1) .f_opened [w] S = .exc (noX' f) S := by
  rw [F_opened]
  simp only [b_opened, run1, startE_cons, startE0, List.replicate, sSeq_ap, sSet_ap, eCall_ap, evs_cons, evs_nil, eVar_ap, List.getElem?_cons_zero, List.getElem?_cons_succ, R.bind_ok, h, R.thn_ok, RS.seq_nx, List.set_cons_zero, List.set_cons_succ, sIf_ap, tB_ap, e2_ap, eC_ap, notN_ap, lift_some, bol_bl, hf, liftB_some, Bool.not_false, if_true, sRaiseN_ap, List.length_cons, List.length_nil, no_eq, RS.seq_exc, fin_exc]
  exact cutX_no0 hS hl
theorem opened_eq (hS : Clo S) {op : Op} (h : okO [] op = true) (hp : parts op ≤ 1000) (hd : dep op ≤ 400) (hb : bnd op = true) (hn : 2 * dep op + 8 ≤ n) : F n .f_opened [wO op] S = .ok (wO (fz op)) S := by
  obtain ⟨n, rfl⟩ : ∃ m, n = m + 1 := ⟨n - 1, by omega⟩
  have h1 := open_fault_eq (n := n) hS h hp hd (by omega)
  have h2 := frozen_eq (n := n) hS h (by omega)
  have h3 := (frz_O h).1
  have h4 := frz_da (frz_O h).2.1
  rw [h3] at h4
  simp only [ofW, hb, if_true] at h1
  rw [F_opened]
  simp [b_opened, h1, h2, isNon]
  exact cut_self hS (da_low h4)
/-! ### frozen ones are right, too -/
theorem okI_fz {g : List Str} {i : It} : okI g (fzI i) = okI g i := by cases i <;> rfl
theorem okO_fz : ∀ {op : Op} {g : List Str}, okO g (fz op) = okO g op
  | .non _, _ => rfl
  | .give _ _ is, g => by
    have : (is.map fzI).all (okI g) = is.all (okI g) := by
      rw [List.all_map]; congr 1; funext i; exact okI_fz
    simp only [fz, okO, List.length_map, this]
  | .each _ _ _ b, _ => by simp only [fz, okO, okO_fz (op := b)]
  | .alt _ a b, _ => by simp only [fz, okO, okO_fz (op := a), okO_fz (op := b)]
  | .cond _ _ _ _ _ b, _ => by simp only [fz, okO, okI_fz, okO_fz (op := b)]
  | .last _ _ _ b, _ => by simp only [fz, okO, okI_fz, okO_fz (op := b)]
theorem dep_fz : ∀ {op : Op}, dep (fz op) = dep op
  | .non _ => rfl
  | .give _ _ is => rfl
  | .each _ _ _ b => by simp only [fz, dep, dep_fz (op := b)]
  | .alt _ a b => by simp only [fz, dep, dep_fz (op := a), dep_fz (op := b)]
  | .cond _ _ _ _ _ b => by simp only [fz, dep, dep_fz (op := b)]
  | .last _ _ _ b => by simp only [fz, dep, dep_fz (op := b)]
theorem parts_fz : ∀ {op : Op}, parts (fz op) = parts op
  | .non _ => rfl
  | .give _ _ is => rfl
  | .each _ _ _ b => by simp only [fz, parts, parts_fz (op := b)]
  | .alt _ a b => by simp only [fz, parts, parts_fz (op := a), parts_fz (op := b)]
  | .cond _ _ _ _ _ b => by simp only [fz, parts, parts_fz (op := b)]
  | .last _ _ _ b => by simp only [fz, parts, parts_fz (op := b)]
theorem mxN_fz : ∀ {op : Op}, mxN (fz op) = mxN op
  | .non _ => rfl
  | .give _ _ is => rfl
  | .each _ _ _ b => by simp only [fz, mxN, mxN_fz (op := b)]
  | .alt _ a b => by simp only [fz, mxN, mxN_fz (op := a), mxN_fz (op := b)]
  | .cond _ _ _ _ _ b => by simp only [fz, mxN, mxN_fz (op := b)]
  | .last _ _ _ b => by simp only [fz, mxN, mxN_fz (op := b)]
theorem gives_fz : ∀ {op : Op}, gives (fz op) = gives op
  | .non _ => rfl
  | .give _ _ is => rfl
  | .each _ _ _ b => by simp only [fz, gives, gives_fz (op := b)]
  | .alt _ a b => by simp only [fz, gives, gives_fz (op := a), gives_fz (op := b)]
  | .cond _ _ _ _ _ b => by simp only [fz, gives, gives_fz (op := b)]
  | .last _ _ _ b => by simp only [fz, gives, gives_fz (op := b)]
theorem rowsL_fz : ∀ {op : Op}, rowsL (fz op) = rowsL op
  | .non _ => rfl
  | .give _ _ is => rfl
  | .each _ _ _ b => by simp only [fz, rowsL, rowsL_fz (op := b)]
  | .alt _ a b => by simp only [fz, rowsL, rowsL_fz (op := a), rowsL_fz (op := b)]
  | .cond _ _ _ _ _ b => by simp only [fz, rowsL, rowsL_fz (op := b)]
  | .last _ _ _ b => by simp only [fz, rowsL, rowsL_fz (op := b)]
theorem keptL_fz : ∀ {op : Op}, keptL (fz op) = keptL op
  | .non _ => rfl
  | .give _ _ is => rfl
  | .each _ _ _ b => by simp only [fz, keptL, keptL_fz (op := b)]
  | .alt _ a b => by simp only [fz, keptL, keptL_fz (op := a), keptL_fz (op := b)]
  | .cond _ _ _ _ _ b => by simp only [fz, keptL, keptL_fz (op := b)]
  | .last _ _ _ b => by simp only [fz, keptL, keptL_fz (op := b)]
theorem fz_fz : ∀ {op : Op}, fz (fz op) = fz op
  | .non _ => rfl
  | .give _ _ is => by
    have : ∀ i : It, fzI (fzI i) = fzI i := fun i => by cases i <;> rfl
    simp only [fz, List.map_map]; congr 1; exact List.map_congr_left fun i _ => this i
  | .each _ _ _ b => by simp only [fz, fz_fz (op := b)]
  | .alt _ a b => by simp only [fz, fz_fz (op := a), fz_fz (op := b)]
  | .cond _ _ _ i j b => by
    have : ∀ i : It, fzI (fzI i) = fzI i := fun i => by cases i <;> rfl
    simp only [fz, this, fz_fz (op := b)]
  | .last _ _ i b => by
    have : ∀ i : It, fzI (fzI i) = fzI i := fun i => by cases i <;> rfl
    simp only [fz, this, fz_fz (op := b)]
theorem bnd_fz {op : Op} : bnd (fz op) = bnd op := by simp only [bnd, dep_fz, parts_fz, mxN_fz, rowsL_fz, keptL_fz]
/-! ### what is told of a right one -/
structure Okd (op : Op) : Prop where
  ok : okO [] op = true
  b : bnd op = true
theorem Okd.lim {op : Op} (h : Okd op) : dep op ≤ 12 ∧ parts op ≤ 40 := by
  have := h.b
  simp only [bnd, Bool.and_eq_true, decide_eq_true_eq] at this
  exact ⟨this.1, this.2.1⟩
theorem Okd.fz {op : Op} (h : Okd op) : Okd (fz op) := ⟨by rw [okO_fz]; exact h.ok, by rw [bnd_fz]; exact h.b⟩
theorem op_eq (hS : Clo S) {op : Op} (h : Okd op) (hn : 32 ≤ n) : F n .f_opened [wO op] S = .ok (wO (fz op)) S :=
  opened_eq hS h.ok (by have := h.lim; omega) (by have := h.lim; omega) h.b (by have := h.lim; omega)
theorem srv_eq (hS : Clo S) {op : Op} (h : Okd op) : F (n + 1) .f_surveyed [wO op] S = .ok (.lst ((sv op [] [] []).map ent)) S :=
  surv_eq hS h.ok (by have := h.lim; omega) (by have := h.lim; omega)
theorem sv_ll {op : Op} (h : Okd op) : (sv op [] [] []).length ≤ 1000 := by rw [sv_len]; have := h.lim; omega
theorem row_names_eq (hS : Clo S) {op : Op} (h : Okd op) (hn : 33 ≤ n) : F n .f_row_names [wO op] S = .ok (.lst ((srtS (dedS (rowsL op))).map W.str)) S := by
  obtain ⟨n, rfl⟩ : ∃ m, n = m + 1 := ⟨n - 1, by omega⟩
  have h1 := op_eq (n := n) hS h (by omega)
  obtain ⟨n, rfl⟩ : ∃ m, n = m + 1 := ⟨n - 1, by omega⟩
  have h2 := srv_eq (n := n) hS h.fz
  have hk : skM (iE (eCall (F (n + 1) .f_surveyed) [(eCall (F (n + 1) .f_opened) [(eVar 0)])])) [1, 2, 3, 4] (gRow [1, 2, 3, 4]) (tB (e2 eqW (e2 (getW gdT) (eVar 2) (eC (.int 0))) (eC (.str ("each" : Str))))) (e2 (getW gdT) (eVar 2) (eC (.int 2))) [some (wO op), none, none, none, none] S = .ok ((dedS (rowsL op)).map Sum.inr) S := by
    rw [← rowsL_fz, ← sv_rows (fz op) [] [] []]
    exact sv_skM (fun s => isEach s.op) (fun s => rowOf s.op) (sv_ll h.fz) (by simp [iE, h1, h2]) (fun s hs => by simp [wipeE, get_kw]) (fun s hs he => by simp [wipeE, get_row he])
  have hlen : (dedS (rowsL op)).length < 64 := by
    have h5 := h.b
    simp only [bnd, Bool.and_eq_true, decide_eq_true_eq] at h5
    omega
  simp at hk
  rw [F_row_names]
  simp [b_row_names, eSortK, hk, strsK_inr, hlen]
  exact cut_self hS (by simpa [lowW] using low_strs)
theorem variables_eq (hS : Clo S) {op : Op} (h : Okd op) (hn : 33 ≤ n) : F n .f_variables [wO op] S = .ok (.lst ((srtS (dedS (keptL op))).map W.str)) S := by
  obtain ⟨n, rfl⟩ : ∃ m, n = m + 1 := ⟨n - 1, by omega⟩
  have h1 := op_eq (n := n) hS h (by omega)
  obtain ⟨n, rfl⟩ : ∃ m, n = m + 1 := ⟨n - 1, by omega⟩
  have h2 := srv_eq (n := n) hS h.fz
  have hk : skM (iE (eCall (F (n + 1) .f_surveyed) [(eCall (F (n + 1) .f_opened) [(eVar 0)])])) [1, 2, 3, 4] (gRow [1, 2, 3, 4]) (tB (e2 eqW (e2 (getW gdT) (eVar 2) (eC (.int 0))) (eC (.str ("last" : Str))))) (e2 (getW gdT) (eVar 2) (eC (.int 1))) [some (wO op), none, none, none, none] S = .ok ((dedS (keptL op)).map Sum.inr) S := by
    rw [← keptL_fz, ← sv_kept (fz op) [] [] []]
    exact sv_skM (fun s => isLast s.op) (fun s => keptOf s.op) (sv_ll h.fz) (by simp [iE, h1, h2]) (fun s hs => by simp [wipeE, get_kw]) (fun s hs he => by simp [wipeE, get_kept he])
  have hlen : (dedS (keptL op)).length < 64 := by
    have h5 := h.b
    simp only [bnd, Bool.and_eq_true, decide_eq_true_eq] at h5
    omega
  simp at hk
  rw [F_variables]
  simp [b_variables, eSortK, hk, strsK_inr, hlen]
  exact cut_self hS (by simpa [lowW] using low_strs)
theorem most_names_eq (hS : Clo S) {op : Op} (h : Okd op) (hn : 33 ≤ n) : F n .f_most_names [wO op] S = .ok (.int (mxN op)) S := by
  obtain ⟨n, rfl⟩ : ∃ m, n = m + 1 := ⟨n - 1, by omega⟩
  have h1 := op_eq (n := n) hS h (by omega)
  obtain ⟨n, rfl⟩ : ∃ m, n = m + 1 := ⟨n - 1, by omega⟩
  have h2 := srv_eq (n := n) hS h.fz
  have hlc : eLc false (iE (eCall (F (n + 1) .f_surveyed) [(eCall (F (n + 1) .f_opened) [(eVar 0)])])) [1, 2, 3, 4] (gRow [1, 2, 3, 4]) tYesM (eN lenSN [(eVar 3)]) [some (wO op), none, none, none, none] S = .ok (.lst ((sv (fz op) [] [] []).map fun s => W.int s.prs.length)) S := by
    have := sv_eLc (m := false) (S := S) (L := sv (fz op) [] [] []) (i1 := 1) (i2 := 2) (i3 := 3) (i4 := 4) (it := iE (eCall (F (n + 1) .f_surveyed) [(eCall (F (n + 1) .f_opened) [(eVar 0)])])) (own := [1, 2, 3, 4]) (t := tYesM) (a := eN lenSN [(eVar 3)]) (e := [some (wO op), none, none, none, none]) (fun _ => true) (fun s => .int s.prs.length) (sv_ll h.fz) (by simp [iE, h1, h2]) (fun s hs => rfl) (fun s hs _ => by simp [wipeE])
    rw [this, List.filter_eq_self.mpr (fun _ _ => rfl)]
    rfl
  have hmx : maxLN [.lst ((sv (fz op) [] [] []).map fun s => W.int s.prs.length)] S = some (.int (mxN op), S) := by
    have := maxLN_ints (m := false) (S := S) (nil_map (op := fz op))
    rw [List.map_map, sv_max, mxN_fz] at this
    exact this
  rw [F_most_names]
  simp [b_most_names, hlc, hmx, hS]
theorem ways_eq (hS : Clo S) {op : Op} (h : Okd op) (hn : 33 ≤ n) : F n .f_ways [wO op] S = .ok (.int (gives op)) S := by
  obtain ⟨n, rfl⟩ : ∃ m, n = m + 1 := ⟨n - 1, by omega⟩
  have h1 := op_eq (n := n) hS h (by omega)
  obtain ⟨n, rfl⟩ : ∃ m, n = m + 1 := ⟨n - 1, by omega⟩
  have h2 := srv_eq (n := n) hS h.fz
  have hlc : eLc false (iE (eCall (F (n + 1) .f_surveyed) [(eCall (F (n + 1) .f_opened) [(eVar 0)])])) [1, 2, 3, 4] (gRow [1, 2, 3, 4]) (tB (e2 eqW (e2 (getW gdT) (eVar 2) (eC (.int 0))) (eC (.str ("give" : Str))))) (eVar 2) [some (wO op), none, none, none, none] S = .ok (.lst (((sv (fz op) [] [] []).filter fun s => isGive s.op).map fun s => wO s.op)) S :=
    sv_eLc (m := false) (fun s => isGive s.op) (fun s => wO s.op) (sv_ll h.fz) (by simp [iE, h1, h2]) (fun s hs => by simp [wipeE, get_kw]) (fun s hs _ => by simp [wipeE])
  have hl := sv_gives (fz op) [] [] []
  rw [gives_fz] at hl
  simp at hlc
  rw [F_ways]
  simp [b_ways, hlc, hl, hS]
end Sh

set_option Elab.async false
set_option linter.all false
set_option maxRecDepth 100000
set_option maxHeartbeats 4000000
namespace Sh
open PySem L2
variable {n : Nat} {S J : Store}
/-! ### entries -/
theorem val_put {kvs : List (Key × W)} {k j : Key} {w : W} : valW (putW kvs k w) j = if j = k then some w else valW kvs j := by
  unfold putW
  split
  · rename_i h
    rw [List.any_eq_true] at h
    obtain ⟨p, hp, e⟩ := h
    have e := of_decide_eq_true e
    by_cases hjk : j = k
    · subst hjk
      rw [if_pos rfl]
      have gen : ∀ l : List (Key × W), (∃ p ∈ l, p.1 = j) → valW (l.map fun kv => if kv.1 = j then (kv.1, w) else kv) j = some w := by
        intro l
        induction l with
        | nil => rintro ⟨p, h, _⟩; simp at h
        | cons x l ih =>
          rintro ⟨p, hp, e⟩
          unfold valW
          rw [List.map_cons, List.find?_cons]
          by_cases hx : x.1 = j
          · rw [if_pos hx]; simp [hx]
          · rw [if_neg hx]
            simp only [hx, decide_false]
            exact ih (by
              rcases List.mem_cons.mp hp with rfl | hp
              · exact absurd e hx
              · exact ⟨p, hp, e⟩)
      exact gen kvs ⟨p, hp, e⟩
    · rw [if_neg hjk]
      have gen : ∀ l : List (Key × W), valW (l.map fun kv => if kv.1 = k then (kv.1, w) else kv) j = valW l j := by
        intro l
        induction l with
        | nil => rfl
        | cons x l ih =>
          unfold valW at ih ⊢
          rw [List.map_cons, List.find?_cons, List.find?_cons]
          by_cases hx : x.1 = k
          · have : ¬ x.1 = j := fun z => hjk (z.symm.trans hx)
            rw [if_pos hx]
            simp only [this, decide_false]
            exact ih
          · rw [if_neg hx]
            cases decide (x.1 = j) with
            | true => rfl
            | false => exact ih
      exact gen kvs
  · rename_i h
    have hno : valW kvs k = none := by
      unfold valW
      rw [Option.map_eq_none_iff, List.find?_eq_none]
      intro p hp e
      exact h (List.any_eq_true.mpr ⟨p, hp, e⟩)
    unfold valW at hno ⊢
    rw [List.find?_append]
    by_cases hjk : j = k
    · subst hjk
      rw [if_pos rfl]
      rw [Option.map_eq_none_iff] at hno
      rw [hno]
      simp
    · rw [if_neg hjk]
      have : ¬ k = j := fun z => hjk z.symm
      cases List.find? (fun kv => decide (kv.1 = j)) kvs <;> simp [this]
theorem put_len {kvs : List (Key × W)} {k : Key} {w : W} : (putW kvs k w).length ≤ kvs.length + 1 := by
  unfold putW
  split <;> simp
theorem put_all {kvs : List (Key × W)} {k : Key} {w : W} {P : Key × W → Prop} (h : ∀ p ∈ kvs, P p) (hk : P (k, w)) (hr : ∀ p ∈ kvs, p.1 = k → P (p.1, w)) : ∀ p ∈ putW kvs k w, P p := by
  intro p hp
  unfold putW at hp
  split at hp
  · obtain ⟨q, hq, rfl⟩ := List.mem_map.mp hp
    split
    · rename_i e; exact hr q hq e
    · exact h q hq
  · rcases List.mem_append.mp hp with hp | hp
    · exact h p hp
    · rw [List.mem_singleton.mp hp]; exact hk
/-- names with their atoms -/
def NtOk (kv : Key × W) : Prop := (∃ x, kv.1 = Sum.inr x) ∧ atB kv.2 = true
structure NkOk (g : List Str) (nk : List (Key × W)) : Prop where
  nm : ∀ x ∈ g, ∃ w, valW nk (.inr x) = some w
  nt : ∀ p ∈ nk, NtOk p
  ln : nk.length ≤ g.length
theorem nk_val {g : List Str} {nk : List (Key × W)} (h : NkOk g nk) {x : Str} (hx : x ∈ g) : ∃ w, valW nk (.inr x) = some w ∧ atB w = true := by
  obtain ⟨w, hw⟩ := h.nm x hx
  refine ⟨w, hw, ?_⟩
  unfold valW at hw
  rw [Option.map_eq_some_iff] at hw
  obtain ⟨p, hp, rfl⟩ := hw
  exact (h.nt p (List.mem_of_find?_eq_some hp)).2
theorem nk_put {g : List Str} {nk : List (Key × W)} (h : NkOk g nk) {x : Str} {a : W} (ha : atB a = true) : NkOk (g ++ [x]) (putW nk (.inr x) a) where
  nm := fun y hy => by
    rw [val_put]
    by_cases e : y = x
    · subst e; exact ⟨a, by rw [if_pos rfl]⟩
    · rw [if_neg (fun z => e (Sum.inr.inj z))]
      rcases List.mem_append.mp hy with hy | hy
      · exact h.nm y hy
      · exact absurd (List.mem_singleton.mp hy) e
  nt := put_all h.nt ⟨⟨x, rfl⟩, ha⟩ fun p hp e => ⟨⟨x, e⟩, ha⟩
  ln := by
    have := put_len (kvs := nk) (k := .inr x) (w := a)
    have := h.ln
    rw [List.length_append, List.length_singleton]; omega
def psOf (nk : List (Key × W)) : List (Str × W) := nk.map fun kv => (keyStr kv.1, kv.2)
theorem at_atm {w : W} (h : atB w = true) : atmW w = true := by
  cases w <;> first | (cases h; done) | rfl
theorem txt_of : ∀ {nk : List (Key × W)}, (∀ p ∈ nk, NtOk p) → txtKs nk = some (psOf nk)
  | [], _ => rfl
  | (k, w) :: nk, h => by
    obtain ⟨⟨x, rfl⟩, ha⟩ := h (k, w) List.mem_cons_self
    simp only [txtKs, at_atm ha, if_true, txt_of (nk := nk) (fun p hp => h p (List.mem_cons_of_mem _ hp)), Option.map_some, psOf, List.map_cons, keyStr]
/-! ### an item's atom -/
def atN (nk : List (Key × W)) : It → W
  | .name _ x => (valW nk (.inr x)).getD .non
  | .atom _ w => w
theorem atN_at {g : List Str} {nk : List (Key × W)} (h : NkOk g nk) {i : It} (hi : okI g i = true) : atB (atN nk i) = true := by
  cases i with
  | name f x =>
    simp only [okI, Bool.and_eq_true, decide_eq_true_eq] at hi
    obtain ⟨w, h1, h2⟩ := nk_val h hi.2
    simp only [atN, h1, Option.getD_some, h2]
  | atom f w => exact hi
theorem get_dc {G : GD} {nv : W} {nk : List (Key × W)} {x : Str} (h : dcW nv S = some nk) : getW G nv (.str x) S = (valW nk (.inr x)).map fun w => (w, S) := by
  cases nv with
  | dic ks ws => cases h; rfl
  | ref a =>
    simp only [dcW] at h
    split at h
    · rename_i kvs e
      cases h
      simp only [getW, lsW, e, dcW, keyW]
    · cases h
  | _ => cases h
theorem at_low {n : Nat} {w : W} (h : atB w = true) : lowW n w = true := pl_low (at_pl h)
theorem atom_of_eq (hS : Clo S) {nv : W} {nk : List (Key × W)} (hd : dcW nv S = some nk) {g : List Str} (hk : NkOk g nk) {i : It} (hi : okI g i = true) : F (n + 1) .f_atom_of [wI i, nv] S = .ok (atN nk i) S := by
  have hl := at_low (n := S.length) (atN_at hk hi)
  cases i with
  | name f x =>
    simp only [okI, Bool.and_eq_true, decide_eq_true_eq] at hi
    obtain ⟨w, h1, h2⟩ := nk_val hk hi.2
    have hg := get_dc (G := gdT) (x := x) hd
    rw [h1] at hg
    simp at hg
    simp only [atN, h1, Option.getD_some] at hl ⊢
    simp [F_atom_of, b_atom_of, wI, hg]
    exact cut_self hS hl
  | atom f w =>
    simp [F_atom_of, b_atom_of, wI]
    exact cut_self hS hl
/-- two atoms are equal -/
def eqA : W → W → Bool
  | .int i, .int j => decide (i = j)
  | .str x, .str y => decide (x = y)
  | _, _ => false
theorem eqA_iff {x y : W} (hx : atB x = true) (hy : atB y = true) : eqA x y = true ↔ x = y := by
  cases x <;> cases y <;> first | (cases hx; done) | (cases hy; done) | simp [eqA]
theorem eq_at {x y : W} (hx : atB x = true) (hy : atB y = true) : eqW x y S = some (.bl (eqA x y), S) := by
  cases x <;> cases y <;> first | (cases hx; done) | (cases hy; done) | simp [eqA, eqW, scV, L2.scal]
def psB (nk : List (Key × W)) (t : Bool) (i j : It) : Bool := if t = true then eqA (atN nk i) (atN nk j) else !eqA (atN nk i) (atN nk j)
theorem passes_eq (hS : Clo S) {nv : W} {nk : List (Key × W)} (hd : dcW nv S = some nk) {g : List Str} (hk : NkOk g nk) {f t : Bool} {i j : It} (hi : okI g i = true) (hj : okI g j = true) :
    F (n + 2) .f_passes [mkR f [.str (tw t), wI i, wI j], nv] S = .ok (.bl (psB nk t i j)) S := by
  have h1 := atom_of_eq (n := n) hS hd hk hi
  have h2 := atom_of_eq (n := n) hS hd hk hj
  have h3 := eq_at (S := S) (atN_at hk hi) (atN_at hk hj)
  cases t with
  | true => simp [F_passes, b_passes, h1, h2, h3, tw, psB, hS]
  | false => simp [F_passes, b_passes, h1, h2, h3, tw, psB, hS]
def shW (nk : List (Key × W)) : W := .tup ((srtP (psOf nk)).map fun p => .tup [.str p.1, p.2])
def resO (nk : List (Key × W)) (is : List It) : W := .tup [.tup (is.map (atN nk)), shW nk]
theorem sh_low {n : Nat} {nk : List (Key × W)} (h : ∀ p ∈ nk, NtOk p) : lowW n (shW nk) = true := by
  simp only [shW, lowW]
  refine lowWs_all.mpr fun q hq => ?_
  obtain ⟨p, hp, rfl⟩ := List.mem_map.mp hq
  obtain ⟨kv, hkv, rfl⟩ := List.mem_map.mp (srtP_perm.mem_iff.mp hp)
  simp only [lowW, lowWs, at_low (h kv hkv).2, Bool.and_self]
theorem res_low {n : Nat} {g : List Str} {nk : List (Key × W)} (h : NkOk g nk) {is : List It} (hi : is.all (okI g) = true) : lowW n (resO nk is) = true := by
  simp only [resO, lowW, lowWs, Bool.and_true, Bool.and_eq_true]
  refine ⟨lowWs_all.mpr fun q hq => ?_, sh_low h.nt⟩
  obtain ⟨i, hi', rfl⟩ := List.mem_map.mp hq
  exact at_low (atN_at h (List.all_eq_true.mp hi i hi'))
theorem result_of_eq (hS : Clo S) {nv : W} {nk : List (Key × W)} (hd : dcW nv S = some nk) {g : List Str} (hk : NkOk g nk) (hg : g.length ≤ 60) {f : Bool} {is : List It} (hl : is.length ≤ 3) (hi : is.all (okI g) = true) :
    F (n + 2) .f_result_of [mkR f (is.map wI), nv] S = .ok (resO nk is) S := by
  have hlc : eLc false (iE (eVar 0)) [2] (gVar 2) tYesM (eCall (F (n + 1) .f_atom_of) [(eVar 2), (eVar 1)]) [some (mkR f (is.map wI)), some nv, none] S = .ok (.lst (is.map (atN nk))) S := by
    obtain ⟨xs, S', h1, h2, h3, h4⟩ := lc_inv (m := false) (it := iE (eVar 0)) (own := [2]) (g := gVar 2) (t := tYesM) (a := eCall (F (n + 1) .f_atom_of) [(eVar 2), (eVar 1)]) (e := [some (mkR f (is.map wI)), some nv, none]) (S := S) (J := itT (is.map wI)) (fun k acc S' => S' = S ∧ k ≤ is.length ∧ acc = (is.take k).map (atN nk)) is.length (by have := fuel_ge; omega) (by simp [iE]) ⟨rfl, Nat.zero_le _, by simp⟩ (fun k acc S h => h.2.1) (by
      rintro k acc S' ⟨rfl, hk', rfl⟩
      by_cases hil : k < is.length
      · right
        obtain ⟨i, hs⟩ : ∃ i, is[k]? = some i := ⟨_, List.getElem?_eq_getElem hil⟩
        have ha := atom_of_eq (n := n) hS hd hk (List.all_eq_true.mp hi i (List.mem_of_getElem? hs))
        refine ⟨wI i, _, _, true, _, by simp [itT, hs], rfl, rfl, .inr ⟨rfl, atN nk i, S', by simp [wipeE, ha], by simp; omega, rfl, hil, ?_⟩⟩
        rw [List.take_add_one, hs]; simp
      · left
        have hie : k = is.length := by omega
        exact ⟨by simp [itT, hie], hie⟩)
    rw [h1, h2, h4, List.take_length]
    rfl
  have hps : (psOf nk).length < 64 := by
    have := hk.ln
    simp only [psOf, List.length_map]; omega
  rw [F_result_of]
  simp [b_result_of, hlc, eSrtI, hd, txt_of hk.nt, hps]
  exact cut_self hS (res_low hk hi)
end Sh

set_option Elab.async false
set_option linter.all false
set_option maxRecDepth 100000
set_option maxHeartbeats 4000000
namespace Sh
open PySem L2
variable {n : Nat} {S J : Store}
abbrev LS := List W × List (Key × W)
def ldO : Op → (Str → List W) → List (Key × W) → LS → LS
  | .non _, _, _, st => st
  | .give _ _ is, _, nk, st => (st.1 ++ [resO nk is], st.2)
  | .each _ x r b, env, nk, st => (env r).foldl (fun st a => ldO b env (putW nk (.inr x) a) st) st
  | .alt _ a b, env, nk, st => ldO b env nk (ldO a env nk st)
  | .cond _ _ t i j b, env, nk, st => if psB nk t i j = true then ldO b env nk st else st
  | .last _ v i b, env, nk, st => ldO b env nk (st.1, putW st.2 (.inr v) (atN nk i))
def mb : Op → Nat
  | .non _ => 1
  | .give _ _ _ => 1
  | .each _ _ _ b => 16 * mb b
  | .alt _ a b => mb a + mb b
  | .cond _ _ _ _ _ b => mb b
  | .last _ _ _ b => mb b + 1
structure EnOk (rv : W) (env : Str → List W) (rs : List Str) : Prop where
  get : ∀ r ∈ rs, ∀ S, getW gdT rv (.str r) S = some (.lst (env r), S)
  len : ∀ r ∈ rs, (env r).length ≤ 16
  at_ : ∀ r ∈ rs, ∀ a ∈ env r, atB a = true
theorem EnOk.sub {rv : W} {env : Str → List W} {rs rs' : List Str} (h : EnOk rv env rs) (hs : ∀ r ∈ rs', r ∈ rs) : EnOk rv env rs' := ⟨fun r hr => h.get r (hs r hr), fun r hr => h.len r (hs r hr), fun r hr => h.at_ r (hs r hr)⟩
/-! ### sizes and lowness of what is led -/
theorem ld_len {env : Str → List W} : ∀ (op : Op) (nk : List (Key × W)) (st : LS), (∀ r ∈ rowsL op, (env r).length ≤ 16) → (ldO op env nk st).1.length ≤ st.1.length + mb op ∧ (ldO op env nk st).2.length ≤ st.2.length + mb op
  | .non _, nk, st, _ => by simp [ldO, mb]
  | .give _ _ is, nk, st, _ => by simp [ldO, mb]
  | .each _ x r b, nk, st, h => by
    have hl := h r (by simp [rowsL])
    have gen : ∀ (l : List W) (st : LS), (l.foldl (fun st a => ldO b env (putW nk (.inr x) a) st) st).1.length ≤ st.1.length + l.length * mb b ∧ (l.foldl (fun st a => ldO b env (putW nk (.inr x) a) st) st).2.length ≤ st.2.length + l.length * mb b := by
      intro l
      induction l with
      | nil => intro st; simp
      | cons a l ih =>
        intro st
        obtain ⟨i1, i2⟩ := ih (ldO b env (putW nk (.inr x) a) st)
        obtain ⟨j1, j2⟩ := ld_len b (putW nk (.inr x) a) st (fun r hr => h r (by simp [rowsL, hr]))
        simp only [List.foldl_cons, List.length_cons, Nat.add_mul, Nat.one_mul]
        omega
    obtain ⟨g1, g2⟩ := gen (env r) st
    have : (env r).length * mb b ≤ 16 * mb b := Nat.mul_le_mul_right _ hl
    simp only [ldO, mb]
    omega
  | .alt _ a b, nk, st, h => by
    obtain ⟨i1, i2⟩ := ld_len a nk st (fun r hr => h r (by simp [rowsL, hr]))
    obtain ⟨j1, j2⟩ := ld_len b nk (ldO a env nk st) (fun r hr => h r (by simp [rowsL, hr]))
    simp only [ldO, mb]
    omega
  | .cond _ _ t i j b, nk, st, h => by
    obtain ⟨i1, i2⟩ := ld_len b nk st (fun r hr => h r (by simpa [rowsL] using hr))
    simp only [ldO, mb]
    split <;> omega
  | .last _ v i b, nk, st, h => by
    obtain ⟨i1, i2⟩ := ld_len b nk (st.1, putW st.2 (.inr v) (atN nk i)) (fun r hr => h r (by simpa [rowsL] using hr))
    have := put_len (kvs := st.2) (k := .inr v) (w := atN nk i)
    simp only [ldO, mb]
    dsimp only at i1 i2
    omega
def LoS (n : Nat) (st : LS) : Prop := lowWs n st.1 = true ∧ lowWs n (st.2.map (·.2)) = true
theorem lo_put {n : Nat} {kvs : List (Key × W)} {k : Key} {w : W} (h : lowWs n (kvs.map (·.2)) = true) (hw : lowW n w = true) : lowWs n ((putW kvs k w).map (·.2)) = true := by
  have h' : ∀ p ∈ kvs, lowW n p.2 = true := fun p hp => lowWs_all.mp h _ (List.mem_map_of_mem hp)
  refine lowWs_all.mpr fun q hq => ?_
  obtain ⟨p, hp, rfl⟩ := List.mem_map.mp hq
  exact put_all (P := fun p => lowW n p.2 = true) h' hw (fun _ _ _ => hw) p hp
theorem ld_low {m : Nat} {env : Str → List W} : ∀ (op : Op) (g : List Str) (nk : List (Key × W)) (st : LS), NkOk g nk → okO g op = true → (∀ r ∈ rowsL op, ∀ a ∈ env r, atB a = true) → LoS m st → LoS m (ldO op env nk st)
  | .non _, g, nk, st, hk, ho, he, h => h
  | .give _ _ is, g, nk, st, hk, ho, he, h => by
    simp only [okO, Bool.and_eq_true] at ho
    exact ⟨low_app h.1 (by simp only [lowWs, res_low hk ho.2, Bool.and_self]), h.2⟩
  | .each _ x r b, g, nk, st, hk, ho, he, h => by
    simp only [okO, Bool.and_eq_true] at ho
    have hat := he r (by simp [rowsL])
    have gen : ∀ (l : List W) (st : LS), (∀ a ∈ l, atB a = true) → LoS m st → LoS m (l.foldl (fun st a => ldO b env (putW nk (.inr x) a) st) st) := by
      intro l
      induction l with
      | nil => intro st _ h; exact h
      | cons a l ih =>
        intro st hl h
        exact ih _ (fun a' h' => hl a' (List.mem_cons_of_mem _ h')) (ld_low b _ _ _ (nk_put hk (hl a List.mem_cons_self)) ho.2.2 (fun r hr => he r (by simp [rowsL, hr])) h)
    exact gen _ _ hat h
  | .alt _ a b, g, nk, st, hk, ho, he, h => by
    simp only [okO, Bool.and_eq_true] at ho
    exact ld_low b g nk _ hk ho.2 (fun r hr => he r (by simp [rowsL, hr])) (ld_low a g nk st hk ho.1 (fun r hr => he r (by simp [rowsL, hr])) h)
  | .cond _ _ t i j b, g, nk, st, hk, ho, he, h => by
    simp only [okO, Bool.and_eq_true] at ho
    simp only [ldO]
    split
    · exact ld_low b g nk st hk ho.2 (fun r hr => he r (by simpa [rowsL] using hr)) h
    · exact h
  | .last _ v i b, g, nk, st, hk, ho, he, h => by
    simp only [okO, Bool.and_eq_true] at ho
    exact ld_low b g nk _ hk ho.2 (fun r hr => he r (by simpa [rowsL] using hr)) ⟨h.1, lo_put h.2 (at_low (atN_at hk ho.1.2))⟩
/-! ### the two objects that are written -/
structure Tr (S : Store) (ra la : Nat) (st : LS) : Prop where
  r : S[ra]? = some (.lst st.1)
  l : S[la]? = some (.dic st.2)
  ne : ra ≠ la
def up (S : Store) (ra la : Nat) (st : LS) : Store := (S.set ra (.lst st.1)).set la (.dic st.2)
section
variable {ra la : Nat} {st st' : LS} {X : Store}
@[simp] theorem up_len : (up S ra la st).length = S.length := by simp [up]
theorem Tr.up_self (t : Tr S ra la st) : up S ra la st = S := by
  unfold up
  have h1 : S.set ra (.lst st.1) = S := by
    apply List.ext_getElem?
    intro i
    rw [List.getElem?_set]
    split
    · rename_i e; subst e
      have := t.r
      have hlt := (List.getElem?_eq_some_iff.mp this).1
      rw [this, if_pos hlt]
    · rfl
  rw [h1]
  apply List.ext_getElem?
  intro i
  rw [List.getElem?_set]
  split
  · rename_i e; subst e
    have := t.l
    have hlt := (List.getElem?_eq_some_iff.mp this).1
    rw [this, if_pos (by simpa using hlt)]
  · rfl
theorem Tr.lt (t : Tr S ra la st) : ra < S.length ∧ la < S.length := ⟨(List.getElem?_eq_some_iff.mp t.r).1, (List.getElem?_eq_some_iff.mp t.l).1⟩
theorem up_get (h : ra < S.length ∧ la < S.length) (ne : ra ≠ la) : Tr (up S ra la st) ra la st := by
  refine ⟨?_, ?_, ne⟩
  · unfold up
    rw [List.getElem?_set, if_neg (fun e => ne e.symm), List.getElem?_set]
    simp [h.1]
  · unfold up
    rw [List.getElem?_set]
    simp [h.2]
theorem up_other {a : Nat} (h1 : a ≠ ra) (h2 : a ≠ la) : (up S ra la st)[a]? = S[a]? := by
  unfold up
  rw [List.getElem?_set, if_neg (fun e => h2 e.symm), List.getElem?_set, if_neg (fun e => h1 e.symm)]
theorem up_up : up (up S ra la st) ra la st' = up S ra la st' := by
  unfold up
  apply List.ext_getElem?
  intro i
  simp only [List.getElem?_set, List.length_set]
  by_cases e1 : la = i
  · simp [e1]
  · by_cases e2 : ra = i
    · simp [e1, e2]
    · simp [e1, e2]
theorem up_app (h : ra < S.length ∧ la < S.length) : up (S ++ X) ra la st = up S ra la st ++ X := by
  unfold up
  rw [List.set_append_left _ _ h.1, List.set_append_left _ _ (by simpa using h.2)]
theorem up_clo (hS : Clo S) (h : LoS S.length st) : Clo (up S ra la st) := by
  unfold up
  refine clo_set (clo_set hS ?_) ?_
  · simpa [lowO] using h.1
  · simpa [lowO] using h.2
theorem Tr.lo (hS : Clo S) (t : Tr S ra la st) : LoS S.length st := by
  have h := clo_iff.mp hS
  have h1 := h _ (List.mem_of_getElem? t.r)
  have h2 := h _ (List.mem_of_getElem? t.l)
  exact ⟨by simpa [lowO] using h1, by simpa [lowO] using h2⟩
theorem dc_up {nv : W} {nk : List (Key × W)} (h : dcW nv S = some nk) (hn : ∀ a, nv = .ref a → a ≠ ra ∧ a ≠ la) : dcW nv (up S ra la st) = some nk := by
  cases nv with
  | ref a =>
    obtain ⟨h1, h2⟩ := hn a rfl
    simp only [dcW, up_other h1 h2] at h ⊢
    exact h
  | dic ks ws => exact h
  | _ => cases h
theorem dc_app {nv : W} {nk : List (Key × W)} (h : dcW nv S = some nk) : dcW nv (S ++ X) = some nk := by
  cases nv with
  | ref a =>
    simp only [dcW] at h ⊢
    cases e : S[a]? with
    | none => rw [e] at h; cases h
    | some o =>
      rw [List.getElem?_append_left (List.getElem?_eq_some_iff.mp e).1]
      exact h
  | dic ks ws => exact h
  | _ => cases h
theorem cut_up (hS : Clo S) (h : LoS S.length st) : cutR S .non (up S ra la st ++ X) = .ok .non (up S ra la st) := by
  have hc := up_clo (ra := ra) (la := la) hS h
  unfold cutR
  rw [fzD_low rfl]
  have : okS S.length (up S ra la st ++ X) = true := by
    rw [← up_len (ra := ra) (la := la) (st := st), okS_app]; exact hc
  simp only [this, if_true]
  rw [← up_len (ra := ra) (la := la) (st := st), List.take_left]
theorem cut_up0 (hS : Clo S) (h : LoS S.length st) : cutR S .non (up S ra la st) = .ok .non (up S ra la st) := by
  have := cut_up (ra := ra) (la := la) (X := []) hS h
  rwa [List.append_nil] at this
end
end Sh

set_option Elab.async false
set_option linter.all false
set_option maxRecDepth 100000
set_option maxHeartbeats 4000000
namespace Sh
open PySem L2
variable {n : Nat} {S J : Store}
theorem app_ref {S : Store} {ra : Nat} {acc : List W} {x : W} (h : S[ra]? = some (.lst acc)) (hl : acc.length < 16777216) : appendM (.ref ra) [x] S = some (.non, S.set ra (.lst (acc ++ [x]))) := by
  simp [appendM, h, hl]
theorem ty_ref {S : Store} {ra : Nat} {acc : List W} (h : S[ra]? = some (.lst acc)) : tyM "list" (.ref ra) S = true := by
  simp [tyM, h]
theorem set_ref {S : Store} {la : Nat} {kv : List (Key × W)} {v : Str} {w : W} (h : S[la]? = some (.dic kv)) (hl : kv.length < 16777216) : setW (.ref la) (.str v) w S = some (S.set la (.dic (putW kv (.inr v) w))) := by
  simp [setW, h, hl, keyW]
theorem set_r {ra la : Nat} {st : LS} {xs : List W} (t : Tr S ra la st) : S.set ra (.lst xs) = up S ra la (xs, st.2) := by
  have h := (Tr.up_self (S := S.set ra (.lst xs)) (ra := ra) (la := la) (st := (xs, st.2)) ⟨by rw [List.getElem?_set]; simp [t.lt.1], by rw [List.getElem?_set, if_neg t.ne]; exact t.l, t.ne⟩)
  rw [← h]
  unfold up
  rw [List.set_set]
theorem set_l {ra la : Nat} {st : LS} {kv : List (Key × W)} (t : Tr S ra la st) : S.set la (.dic kv) = up S ra la (st.1, kv) := by
  have h := (Tr.up_self (S := S.set la (.dic kv)) (ra := ra) (la := la) (st := (st.1, kv)) ⟨by rw [List.getElem?_set, if_neg (fun e => t.ne e.symm)]; exact t.r, by rw [List.getElem?_set]; simp [t.lt.2], t.ne⟩)
  rw [← h]
  unfold up
  apply List.ext_getElem?
  intro i
  simp only [List.getElem?_set, List.length_set]
  by_cases e1 : la = i
  · simp [e1]
  · simp [e1]
theorem lead_eq {rv : W} {env : Str → List W} {ra la : Nat} : ∀ (op : Op) (g : List Str) (n : Nat) (S : Store) (nv : W) (nk : List (Key × W)) (st : LS), Clo S → Tr S ra la st → dcW nv S = some nk → (∀ a, nv = .ref a → a ≠ ra ∧ a ≠ la) → NkOk g nk → okO g op = true → EnOk rv env (rowsL op) →
    g.length + dep op ≤ 60 → st.1.length + mb op ≤ 10000000 → st.2.length + mb op ≤ 10000000 → dep op + 3 ≤ n → F n .f_lead [wO op, rv, nv, .ref ra, .ref la] S = .ok .non (up S ra la (ldO op env nk st))
  | .non f, g, n, S, nv, nk, st, hS, t, hd, hn, hk, ho, he, hg, h1, h2, hf => by
    obtain ⟨n, rfl⟩ : ∃ m, n = m + 1 := ⟨n - 1, by omega⟩
    have hc := cut_up0 (ra := ra) (la := la) (st := st) hS (t.lo hS)
    rw [t.up_self] at hc
    rw [F_lead]
    simp [b_lead, wO, ldO, t.up_self, hc]
  | .give f gg is, g, n, S, nv, nk, st, hS, t, hd, hn, hk, ho, he, hg, h1, h2, hf => by
    obtain ⟨n, rfl⟩ : ∃ m, n = m + 3 := ⟨n - 3, by omega⟩
    simp only [okO, Bool.and_eq_true, decide_eq_true_eq] at ho
    simp only [mb] at h1
    have hr := result_of_eq (n := n) hS hd hk (by omega) (f := gg) ho.1 ho.2
    have hlo := ld_low (m := S.length) (env := env) (.give f gg is) g nk st hk (by simp only [okO, Bool.and_eq_true, decide_eq_true_eq]; exact ho) he.at_ (t.lo hS)
    have hc := cut_up0 (ra := ra) (la := la) hS hlo
    simp only [ldO] at hc
    have ha := app_ref (x := resO nk is) t.r (by omega)
    rw [set_r t] at ha
    rw [F_lead]
    simp [b_lead, wO, hr, ty_ref t.r, ha, ldO, hc]
  | .each f x r b, g, n, S, nv, nk, st, hS, t, hd, hn, hk, ho, he, hg, h1, h2, hf => by
    obtain ⟨n, rfl⟩ : ∃ m, n = m + 1 := ⟨n - 1, by omega⟩
    simp only [okO, Bool.and_eq_true, Bool.not_eq_true', decide_eq_false_iff_not] at ho
    simp only [dep] at hg hf
    simp only [mb] at h1 h2
    have hrm : r ∈ rowsL (.each f x r b) := by simp [rowsL]
    have hget := he.get r hrm S
    have hlen := he.len r hrm
    have hat := he.at_ r hrm
    have heb : EnOk rv env (rowsL b) := he.sub fun q hq => by simp [rowsL, hq]
    let fs : LS → W → LS := fun st a => ldO b env (putW nk (.inr x) a) st
    have hpart : ∀ i, i ≤ (env r).length → ((((env r).take i).foldl fs st).1.length ≤ st.1.length + i * mb b ∧ (((env r).take i).foldl fs st).2.length ≤ st.2.length + i * mb b) ∧ LoS S.length (((env r).take i).foldl fs st) := by
      intro i
      induction i with
      | zero => intro _; simp; exact t.lo hS
      | succ i ih =>
        intro hi
        obtain ⟨⟨i1, i2⟩, i3⟩ := ih (by omega)
        obtain ⟨a, ha⟩ : ∃ a, (env r)[i]? = some a := ⟨_, List.getElem?_eq_getElem (by omega)⟩
        rw [List.take_add_one, ha]
        simp only [Option.toList_some, List.foldl_append, List.foldl_cons, List.foldl_nil]
        obtain ⟨j1, j2⟩ := ld_len (env := env) b (putW nk (.inr x) a) (((env r).take i).foldl fs st) heb.len
        have j3 := ld_low (m := S.length) (env := env) b _ _ _ (nk_put hk (hat a (List.mem_of_getElem? ha))) ho.2.2 heb.at_ i3
        refine ⟨⟨?_, ?_⟩, j3⟩
        · rw [Nat.add_mul, Nat.one_mul]; exact Nat.le_trans j1 (by omega)
        · rw [Nat.add_mul, Nat.one_mul]; exact Nat.le_trans j2 (by omega)
    have hm16 : ∀ i, i ≤ (env r).length → i * mb b ≤ 16 * mb b := fun i hi => Nat.mul_le_mul_right _ (by omega)
    have hstr : (⟨#[101, 97, 99, 104]⟩ : Str) = "each" := by decide +kernel
    rw [F_lead]
    simp [b_lead, wO, ldO]
    refine sFor_inv (J := itT (env r)) (P := fun q => RS.fin S q = R.ok W.non (up S ra la ((env r).foldl fs st))) (fun i e S' => i ≤ (env r).length ∧ ∃ (X : Store) (x6 x7 : Option W), S' = up S ra la (((env r).take i).foldl fs st) ++ X ∧ (∀ o ∈ X, ∀ m, lowO m o = true) ∧ e = [some (mkR f [.str "each", .str x, .str r, wO b]), some rv, some nv, some (.ref ra), some (.ref la), some (.str "each"), x6, x7]) (env r).length (by have := fuel_ge; omega) (by simp [iE, hget]) ⟨Nat.zero_le _, [], none, none, by simp [t.up_self], by simp, by simp⟩ (fun i e S h => h.1) ?_
    rintro i e S' ⟨hi, X, x6, x7, rfl, hX, rfl⟩
    obtain ⟨⟨p1, p2⟩, p3⟩ := hpart i hi
    by_cases hil : i < (env r).length
    · obtain ⟨a, ha⟩ : ∃ a, (env r)[i]? = some a := ⟨_, List.getElem?_eq_getElem hil⟩
      have haa := hat a (List.mem_of_getElem? ha)
      refine .inr ⟨a, _, _, by simp [itT, ha], rfl, ?_⟩
      generalize hst : ((env r).take i).foldl fs st = sti at p1 p2 p3
      have hd1 : dcW nv (up S ra la sti ++ X) = some nk := dc_app (dc_up hd hn)
      have hkp := nk_put (x := x) hk haa
      -- the store at the call
      have hlt := t.lt
      let Y : Store := X ++ [.dic (putW nk (.inr x) a)]
      have hY : ∀ o ∈ Y, ∀ m, lowO m o = true := fun o ho m => by
        rcases List.mem_append.mp ho with ho | ho
        · exact hX o ho m
        · rw [List.mem_singleton.mp ho]
          simp only [lowO]
          refine lowWs_all.mpr fun q hq => ?_
          obtain ⟨p, hp, rfl⟩ := List.mem_map.mp hq
          exact at_low (hkp.nt p hp).2
      have hclo : Clo (up S ra la sti ++ Y) := by
        have c1 := up_clo (ra := ra) (la := la) hS p3
        refine clo_iff.mpr fun o ho => ?_
        rcases List.mem_append.mp ho with ho | ho
        · exact lowO_mono (by simp) (clo_iff.mp c1 o ho)
        · exact hY o ho _
      have htr : Tr (up S ra la sti ++ Y) ra la sti := by
        have q := up_get (S := S) (st := sti) hlt t.ne
        refine ⟨?_, ?_, t.ne⟩
        · rw [List.getElem?_append_left (by simp [hlt.1])]; exact q.r
        · rw [List.getElem?_append_left (by simp [hlt.2])]; exact q.l
      have hk0 : (up S ra la sti ++ Y)[(up S ra la sti ++ X).length]? = some (.dic (putW nk (.inr x) a)) := by
        show (up S ra la sti ++ (X ++ [.dic (putW nk (.inr x) a)]))[(up S ra la sti ++ X).length]? = _
        rw [← List.append_assoc, List.getElem?_append_right (Nat.le_refl _)]
        simp
      have hdc : dcW (.ref (up S ra la sti ++ X).length) (up S ra la sti ++ Y) = some (putW nk (.inr x) a) := by
        simp only [dcW, hk0]
      have hnn : ∀ a', W.ref (up S ra la sti ++ X).length = .ref a' → a' ≠ ra ∧ a' ≠ la := fun a' e => by
        injection e with e
        subst e
        simp only [List.length_append, up_len]
        omega
      have hb := lead_eq b (g ++ [x]) n (up S ra la sti ++ Y) (.ref (up S ra la sti ++ X).length) (putW nk (.inr x) a) sti hclo htr hdc hnn hkp ho.2.2 heb (by simp only [List.length_append, List.length_singleton]; omega)
        (by have := hm16 (i + 1) hil; rw [Nat.add_mul, Nat.one_mul] at this; omega) (by have := hm16 (i + 1) hil; rw [Nat.add_mul, Nat.one_mul] at this; omega) (by omega)
      rw [up_app (by simpa using hlt), up_up] at hb
      have hdn : dcopyN true [nv] (up S ra la sti ++ X) = some (.ref (up S ra la sti ++ X).length, up S ra la sti ++ X ++ [.dic nk]) := by
        simp only [dcopyN, hd1, mkD_t]
      have hsw : setW (.ref (up S ra la sti ++ X).length) (.str x) a (up S ra la sti ++ X ++ [.dic nk]) = some (up S ra la sti ++ Y) := by
        have e1 : (up S ra la sti ++ X ++ [Ob.dic nk])[(up S ra la sti ++ X).length]? = some (.dic nk) := by
          rw [List.getElem?_append_right (Nat.le_refl _)]; simp
        have := hk.ln
        rw [set_ref e1 (by omega)]
        congr 1
        show _ = up S ra la sti ++ (X ++ [.dic (putW nk (.inr x) a)])
        rw [← List.append_assoc, List.set_append_right _ _ (Nat.le_refl _)]
        simp
      simp only [sSeq_ap, sSet_ap, eN_ap, evs_cons, evs_nil, eVar_ap, List.getElem?_cons_zero, List.getElem?_cons_succ, List.set_cons_zero, List.set_cons_succ, R.bind_ok, hdn, lift_some, R.thn_ok, RS.seq_nx, sSetIx_ap, e2_ap, eC_ap, get_mk, atI_1, atI_3, Option.map_some, hsw, sExpr_ap, eCall_ap, hb]
      refine ⟨hil, Y, some a, some (.ref (up S ra la sti ++ X).length), ?_, hY, rfl⟩
      rw [List.take_add_one, ha]
      simp only [Option.toList_some, List.foldl_append, List.foldl_cons, List.foldl_nil, hst]
      rfl
    · have hie : i = (env r).length := by omega
      refine .inl ⟨by simp [itT, hie], ?_⟩
      rw [hie, List.take_length] at p3 ⊢
      exact cut_up hS p3
  | .alt f a b, g, n, S, nv, nk, st, hS, t, hd, hn, hk, ho, he, hg, h1, h2, hf => by
    obtain ⟨n, rfl⟩ : ∃ m, n = m + 1 := ⟨n - 1, by omega⟩
    simp only [okO, Bool.and_eq_true] at ho
    simp only [dep] at hg hf
    simp only [mb] at h1 h2
    have hea : EnOk rv env (rowsL a) := he.sub fun q hq => by simp [rowsL, hq]
    have heb : EnOk rv env (rowsL b) := he.sub fun q hq => by simp [rowsL, hq]
    obtain ⟨l1, l2⟩ := ld_len (env := env) a nk st hea.len
    have lo1 := ld_low (m := S.length) (env := env) a g nk st hk ho.1 hea.at_ (t.lo hS)
    have lo2 := ld_low (m := S.length) (env := env) b g nk _ hk ho.2 heb.at_ lo1
    have e1 := lead_eq a g n S nv nk st hS t hd hn hk ho.1 hea (by omega) (by omega) (by omega) (by omega)
    have hclo := up_clo (ra := ra) (la := la) hS lo1
    have e2 := lead_eq b g n (up S ra la (ldO a env nk st)) nv nk (ldO a env nk st) hclo (up_get t.lt t.ne) (dc_up hd hn) hn hk ho.2 heb (by omega) (by omega) (by omega) (by omega)
    rw [up_up] at e2
    have hc := cut_up0 (ra := ra) (la := la) hS lo2
    rw [F_lead]
    simp [b_lead, wO, ldO, e1, e2, hc]
  | .cond f gg tt i j b, g, n, S, nv, nk, st, hS, t, hd, hn, hk, ho, he, hg, h1, h2, hf => by
    obtain ⟨n, rfl⟩ : ∃ m, n = m + 3 := ⟨n - 3, by omega⟩
    simp only [okO, Bool.and_eq_true] at ho
    simp only [dep] at hg hf
    simp only [mb] at h1 h2
    have heb : EnOk rv env (rowsL b) := he.sub fun q hq => by simpa [rowsL] using hq
    have lo1 := ld_low (m := S.length) (env := env) b g nk st hk ho.2 heb.at_ (t.lo hS)
    have e1 := lead_eq b g (n + 2) S nv nk st hS t hd hn hk ho.2 heb (by omega) (by omega) (by omega) (by omega)
    have hp := passes_eq (n := n) hS hd hk (f := gg) (t := tt) ho.1.1 ho.1.2
    have hc := cut_up0 (ra := ra) (la := la) hS lo1
    have hc0 := cut_up0 (ra := ra) (la := la) hS (t.lo hS)
    rw [t.up_self] at hc0
    rw [F_lead]
    cases hb : psB nk tt i j with
    | true =>
      rw [hb] at hp
      simp [b_lead, wO, ldO, hp, hb, e1, hc]
    | false =>
      rw [hb] at hp
      simp [b_lead, wO, ldO, hp, hb, hc0, t.up_self]
  | .last f v i b, g, n, S, nv, nk, st, hS, t, hd, hn, hk, ho, he, hg, h1, h2, hf => by
    obtain ⟨n, rfl⟩ : ∃ m, n = m + 2 := ⟨n - 2, by omega⟩
    simp only [okO, Bool.and_eq_true] at ho
    simp only [dep] at hg hf
    simp only [mb] at h1 h2
    have heb : EnOk rv env (rowsL b) := he.sub fun q hq => by simpa [rowsL] using hq
    have ha := atom_of_eq (n := n) hS hd hk ho.1.2
    have hput := put_len (kvs := st.2) (k := .inr v) (w := atN nk i)
    have lo0 : LoS S.length (st.1, putW st.2 (.inr v) (atN nk i)) := ⟨(t.lo hS).1, lo_put (t.lo hS).2 (at_low (atN_at hk ho.1.2))⟩
    have lo1 := ld_low (m := S.length) (env := env) b g nk _ hk ho.2 heb.at_ lo0
    have hclo := up_clo (ra := ra) (la := la) hS lo0
    have hs := set_ref (v := v) (w := atN nk i) t.l (by omega)
    rw [set_l t] at hs
    have e1 := lead_eq b g (n + 1) (up S ra la (st.1, putW st.2 (.inr v) (atN nk i))) nv nk (st.1, putW st.2 (.inr v) (atN nk i)) hclo (up_get t.lt t.ne) (dc_up hd hn) hn hk ho.2 heb (by omega) (by dsimp only; omega) (by dsimp only; omega) (by omega)
    rw [up_up] at e1
    have hc := cut_up0 (ra := ra) (la := la) hS lo1
    rw [F_lead]
    simp [b_lead, wO, ldO, ha, hs, e1, hc]
end Sh

set_option Elab.async false
set_option linter.all false
set_option maxRecDepth 100000
set_option maxHeartbeats 4000000
namespace Sh
open PySem L2
variable {n : Nat} {S J : Store}
/-! ### right rows -/
structure RR (xs : List W) : Prop where
  len : xs.length ≤ 16
  at_ : ∀ a ∈ xs, atB a = true
  set_ : ∃ ks, keysW xs = some ks ∧ (dedupK ks).length = xs.length
theorem are_atoms_eq (hS : Clo S) {f : Bool} {xs : List W} (h : RR xs) : F (n + 3) .f_are_atoms [mkR f xs] S = .ok (.bl true) S := by
  have h1 := is_row_mk (n := n + 1) hS (f := f) (xs := xs)
  rw [F_are_atoms]
  simp [b_are_atoms, h1]
  refine fin_all (ws := xs) (fun _ => true) .non (by simp [iE]) (fun w hw => ?_) (by have := h.len; simp; omega) (by simp) (fun ha y => ?_) (fun ha => ?_)
  · have h2 := is_atom_eq (n := n) hS (at_pl (h.at_ w hw))
    rw [h.at_ w hw] at h2
    simp [h2]
  · simp [hS]
  · exact absurd ha (by rw [List.all_eq_true.mpr (fun _ _ => rfl)]; simp)
theorem is_right_eq (hS : Clo S) {f : Bool} {xs : List W} (h : RR xs) : F (n + 4) .f_is_right_row [mkR f xs] S = .ok (.bl true) S := by
  have h1 := are_atoms_eq (n := n) hS (f := f) h
  obtain ⟨ks, hk, hl⟩ := h.set_
  have h2 := dedup_len ks
  have hlen := h.len
  have hkl : ks.length = xs.length := by
    have gen : ∀ {xs : List W} {ks : List Key}, keysW xs = some ks → ks.length = xs.length := by
      intro xs
      induction xs with
      | nil => intro ks h; cases h; rfl
      | cons x xs ih =>
        intro ks h
        simp only [keysW] at h
        split at h
        · rename_i k ks' _ h2; cases h; rw [List.length_cons, List.length_cons, ih h2]
        · cases h
    exact gen hk
  have hsc : ks.length + 1 < scanBound := by unfold scanBound; omega
  have hset : setM (eVar 0) [some (mkR f xs)] S = .ok (dedupK ks) S := by
    have : seqW (mkR f xs) S = some xs := by cases f <;> rfl
    simp only [setM, eVar_ap, List.getElem?_cons_zero, R.bind_ok, this, Option.bind_some, hk, hsc, if_true]
  rw [F_is_right_row]
  simp [b_is_right_row, h1, eSz, hset, hl, hS]
  omega
/-! ### the rows by names -/
def rwF (env : Str → List W) (xs : List Str) : List (Key × W) := xs.foldl (fun kv x => putW kv (.inr x) (.lst (env x))) []
theorem rwF_snoc {env : Str → List W} {xs : List Str} {x : Str} : rwF env (xs ++ [x]) = putW (rwF env xs) (.inr x) (.lst (env x)) := by
  unfold rwF; rw [List.foldl_append]; rfl
theorem rwF_len {env : Str → List W} (xs : List Str) : (rwF env xs).length ≤ xs.length := by
  have gen : ∀ (xs : List Str) (kv : List (Key × W)), (xs.foldl (fun kv x => putW kv (.inr x) (.lst (env x))) kv).length ≤ kv.length + xs.length := by
    intro xs
    induction xs with
    | nil => intro kv; simp
    | cons x xs ih =>
      intro kv
      have h1 := ih (putW kv (.inr x) (.lst (env x)))
      have h2 := put_len (kvs := kv) (k := .inr x) (w := .lst (env x))
      simp only [List.foldl_cons, List.length_cons]
      omega
  have := gen xs []
  simpa [rwF] using this
theorem rwF_val {env : Str → List W} {xs : List Str} {x : Str} (h : x ∈ xs) : valW (rwF env xs) (.inr x) = some (.lst (env x)) := by
  have gen : ∀ (xs : List Str) (kv : List (Key × W)), (x ∈ xs ∨ valW kv (.inr x) = some (.lst (env x))) → valW (xs.foldl (fun kv x => putW kv (.inr x) (.lst (env x))) kv) (.inr x) = some (.lst (env x)) := by
    intro xs
    induction xs with
    | nil => rintro kv (h | h); · simp at h
             exact h
    | cons y xs ih =>
      intro kv h
      simp only [List.foldl_cons]
      refine ih _ ?_
      by_cases e : x = y
      · subst e; right; rw [val_put, if_pos rfl]
      · rcases h with h | h
        · rcases List.mem_cons.mp h with h | h
          · exact absurd h e
          · exact .inl h
        · right; rw [val_put, if_neg (fun z => e (Sum.inr.inj z))]; exact h
  exact gen xs [] (.inl h)
theorem rwF_low {m : Nat} {env : Str → List W} {xs : List Str} (h : ∀ x ∈ xs, ∀ a ∈ env x, atB a = true) : lowWs m ((rwF env xs).map (·.2)) = true := by
  have gen : ∀ (xs : List Str) (kv : List (Key × W)), (∀ x ∈ xs, ∀ a ∈ env x, atB a = true) → lowWs m (kv.map (·.2)) = true → lowWs m ((xs.foldl (fun kv x => putW kv (.inr x) (.lst (env x))) kv).map (·.2)) = true := by
    intro xs
    induction xs with
    | nil => intro kv _ h; exact h
    | cons y xs ih =>
      intro kv h hk
      simp only [List.foldl_cons]
      refine ih _ (fun x hx => h x (List.mem_cons_of_mem _ hx)) (lo_put hk ?_)
      simp only [lowW]
      exact lowWs_all.mpr fun a ha => at_low (h y List.mem_cons_self a ha)
  exact gen xs [] h rfl
theorem notIn_dc {G : GD} {nv : W} {nk : List (Key × W)} {x : Str} (h : dcW nv S = some nk) : notInW G (.str x) nv S = some (.bl (!(valW nk (.inr x)).isSome), S) := by
  cases nv with
  | dic ks ws => cases h; rfl
  | ref a =>
    simp only [dcW] at h
    split at h
    · rename_i kvs e
      cases h
      simp only [notInW, inB, lsW, e, dcW, keyW, Option.map_some]
    · cases h
  | _ => cases h
theorem isi_dc {nv : W} {nk : List (Key × W)} (h : dcW nv S = some nk) : isiN [nv, .ty "dict"] S = some (.bl true, S) := by
  cases nv with
  | dic ks ws => simp
  | ref a =>
    simp only [dcW] at h
    split at h
    · rename_i kvs e
      simp [tyName, e]
    · cases h
  | _ => cases h
structure EvOk (ek : List (Key × W)) (env : Str → List W) (xs : List Str) : Prop where
  val : ∀ x ∈ xs, ∃ f, valW ek (.inr x) = some (mkR f (env x))
  rr : ∀ x ∈ xs, RR (env x)
theorem fzD_dic {n d a : Nat} {S : Store} {kvs : List (Key × W)} (ha : ¬ a < n) (e : S[a]? = some (.dic kvs)) (hw : lowWs n (kvs.map (·.2)) = true) : fzD n S (d + 1) (.ref a) = some (.dic (kvs.map (·.1)) (kvs.map (·.2))) := by
  simp only [fzD, mapR]
  rw [if_neg ha, e]
  dsimp only
  rw [fzL_low hw]
  rfl
theorem cut_dic {kvs : List (Key × W)} (hS : Clo S) (hw : lowWs S.length (kvs.map (·.2)) = true) : cutR S (.ref S.length) (S ++ .dic kvs :: J) = .ok (.dic (kvs.map (·.1)) (kvs.map (·.2))) S := by
  unfold cutR
  rw [fzD_dic (Nat.lt_irrefl _) top_get hw]
  simp only [okS_app, hS, if_true, List.take_left]
def dcV (kvs : List (Key × W)) : W := .dic (kvs.map (·.1)) (kvs.map (·.2))
theorem zip_kv (kvs : List (Key × W)) : (kvs.map (·.1)).zip (kvs.map (·.2)) = kvs := by
  induction kvs with
  | nil => rfl
  | cons p kvs ih => simp only [List.map_cons, List.zip_cons_cons, ih]
theorem dcV_dc {kvs : List (Key × W)} : dcW (dcV kvs) S = some kvs := by simp only [dcV, dcW, zip_kv]
theorem rows_for_eq (hS : Clo S) {ev : W} {ek : List (Key × W)} {env : Str → List W} {xs : List Str} (hx : xs.length ≤ 1000) (hd : dcW ev S = some ek) (he : EvOk ek env xs) :
    F (n + 5) .f_rows_for [.lst (xs.map W.str), ev] S = .ok (dcV (rwF env xs)) S := by
  have hd1 : ∀ X, dcW ev (S ++ X) = some ek := fun X => dc_app hd
  have hat : ∀ x ∈ xs, ∀ a ∈ env x, atB a = true := fun x hx a ha => (he.rr x hx).at_ a ha
  rw [F_rows_for]
  simp [b_rows_for, isi_dc hd]
  refine fin_inv (J := itT (xs.map W.str)) (fun i e S' => i ≤ xs.length ∧ ∃ x3, S' = S ++ [.dic (rwF env (xs.take i))] ∧ e = [some (.lst (xs.map W.str)), some ev, some (.ref S.length), x3]) xs.length (by have := fuel_ge; omega) (by simp [iE]) ⟨Nat.zero_le _, none, by simp [rwF], rfl⟩ (fun i e S h => h.1) ?_
  rintro i e S' ⟨hi, x3, rfl, rfl⟩
  by_cases hil : i < xs.length
  · obtain ⟨x, hxi⟩ : ∃ x, xs[i]? = some x := ⟨_, List.getElem?_eq_getElem hil⟩
    have hm := List.mem_of_getElem? hxi
    refine .inr ⟨.str x, _, _, by simp [itT, hxi], rfl, ?_⟩
    obtain ⟨f, hv⟩ := he.val x hm
    have hclo : Clo (S ++ [Ob.dic (rwF env (xs.take i))]) := clo_push hS (by
      simp only [lowO]
      exact rwF_low fun y hy => hat y (List.mem_of_mem_take hy))
    have hr := is_right_eq (n := n) hclo (f := f) (he.rr x hm)
    have hlen := rwF_len (env := env) (xs.take i)
    rw [List.length_take] at hlen
    have hg := get_dc (G := gdT) (x := x) (hd1 [Ob.dic (rwF env (xs.take i))])
    have hni := notIn_dc (G := gdT) (x := x) (hd1 [Ob.dic (rwF env (xs.take i))])
    rw [hv] at hg hni
    have hset := set_ref (S := S ++ [Ob.dic (rwF env (xs.take i))]) (la := S.length) (v := x) (w := .lst (env x)) (kv := rwF env (xs.take i)) (by simp) (by omega)
    have hnext : rwF env (xs.take (i + 1)) = putW (rwF env (xs.take i)) (.inr x) (.lst (env x)) := by
      rw [List.take_add_one, hxi]; exact rwF_snoc
    have hset' : (S ++ [Ob.dic (rwF env (xs.take i))]).set S.length (Ob.dic (putW (rwF env (xs.take i)) (.inr x) (.lst (env x)))) = S ++ [Ob.dic (rwF env (xs.take (i + 1)))] := by
      rw [hnext]; exact top_set (J := [])
    rw [hset'] at hset
    simp at hg hni
    simp [hg, hni, hr, hset]
    exact hil
  · have hie : i = xs.length := by omega
    refine .inl ⟨by simp [itT, hie], ?_⟩
    rw [hie, List.take_length]
    simp only [sRet_ap, eVar_ap, List.getElem?_cons_succ, List.getElem?_cons_zero, R.thn_ok, fin_ret]
    exact cut_dic (J := []) hS (rwF_low hat)
end Sh

set_option Elab.async false
set_option linter.all false
set_option maxRecDepth 100000
set_option maxHeartbeats 4000000
namespace Sh
open PySem L2
variable {n : Nat} {S J : Store}
theorem atN_fz {nk : List (Key × W)} {i : It} : atN nk (fzI i) = atN nk i := by cases i <;> rfl
theorem ldO_fz {env : Str → List W} : ∀ (op : Op) (nk : List (Key × W)) (st : LS), ldO (fz op) env nk st = ldO op env nk st
  | .non _, _, _ => rfl
  | .give _ _ is, nk, st => by
    have : (is.map fzI).map (atN nk) = is.map (atN nk) := by
      rw [List.map_map]; exact List.map_congr_left fun i _ => atN_fz
    simp only [fz, ldO, resO, this]
  | .each _ x r b, nk, st => by
    simp only [fz, ldO]
    congr 1
    funext st a
    exact ldO_fz b _ _
  | .alt _ a b, nk, st => by simp only [fz, ldO, ldO_fz a, ldO_fz b]
  | .cond _ _ t i j b, nk, st => by
    have : psB nk t (fzI i) (fzI j) = psB nk t i j := by simp only [psB, atN_fz]
    simp only [fz, ldO, this, ldO_fz b]
  | .last _ v i b, nk, st => by simp only [fz, ldO, atN_fz, ldO_fz b]
theorem cut_pair (hS : Clo S) {xs : List W} {kv : List (Key × W)} (h1 : lowWs S.length xs = true) (h2 : lowWs S.length (kv.map (·.2)) = true) :
    cutR S (.tup [.ref S.length, .ref (S.length + 1)]) (S ++ [.lst xs, .dic kv]) = .ok (.tup [.lst xs, dcV kv]) S := by
  have e1 : (S ++ [Ob.lst xs, Ob.dic kv])[S.length]? = some (.lst xs) := by simp
  have e2 : (S ++ [Ob.lst xs, Ob.dic kv])[S.length + 1]? = some (.dic kv) := by
    rw [List.getElem?_append_right (by omega)]; simp
  have hz : fzD S.length (S ++ [Ob.lst xs, Ob.dic kv]) 4 (.tup [.ref S.length, .ref (S.length + 1)]) = some (.tup [.lst xs, dcV kv]) := by
    simp only [fzD, mapR, mapRs]
    rw [if_neg (Nat.lt_irrefl _), if_neg (by omega), e1, e2]
    have f1 := fzL_low (S := S ++ [Ob.lst xs, Ob.dic kv]) (d := 3) h1
    have f2 := fzL_low (S := S ++ [Ob.lst xs, Ob.dic kv]) (d := 3) h2
    simp only [fzD] at f1 f2
    dsimp only
    rw [f1, f2]
    rfl
  unfold cutR
  rw [hz]
  simp only [okS_app, hS, if_true, List.take_left]
theorem ded_sub {x : Str} {xs : List Str} : x ∈ dedS xs ↔ x ∈ xs := by
  have gen : ∀ (xs acc : List Str), x ∈ xs.foldl (fun ks k => if k ∈ ks then ks else ks ++ [k]) acc ↔ x ∈ acc ∨ x ∈ xs := by
    intro xs
    induction xs with
    | nil => intro acc; simp
    | cons y xs ih =>
      intro acc
      simp only [List.foldl_cons]
      rw [ih]
      split
      · rename_i h
        constructor
        · rintro (h1 | h1)
          · exact .inl h1
          · exact .inr (List.mem_cons_of_mem _ h1)
        · rintro (h1 | h1)
          · exact .inl h1
          · rcases List.mem_cons.mp h1 with rfl | h1
            · exact .inl h
            · exact .inr h1
      · simp only [List.mem_append, List.mem_cons, List.not_mem_nil, or_false]
        constructor
        · rintro ((h1 | h1) | h1)
          · exact .inl h1
          · exact .inr (.inl h1)
          · exact .inr (.inr h1)
        · rintro (h1 | h1 | h1)
          · exact .inl (.inl h1)
          · exact .inl (.inr h1)
          · exact .inr h1
  have := gen xs []
  simpa [dedS] using this
theorem srt_mem {x : Str} {xs : List Str} : x ∈ srtS xs ↔ x ∈ xs := srtS_perm.mem_iff
/-- an environment for the rows of op -/
abbrev EvF (ek : List (Key × W)) (env : Str → List W) (op : Op) : Prop := EvOk ek env (rowsL op)
theorem ev_names {ek : List (Key × W)} {env : Str → List W} {op : Op} (h : EvF ek env op) : EvOk ek env (srtS (dedS (rowsL op))) :=
  ⟨fun x hx => h.val x (ded_sub.mp (srt_mem.mp hx)), fun x hx => h.rr x (ded_sub.mp (srt_mem.mp hx))⟩
theorem en_of {ek : List (Key × W)} {env : Str → List W} {op : Op} (h : EvF ek env op) : EnOk (dcV (rwF env (srtS (dedS (rowsL op))))) env (rowsL op) := by
  refine ⟨fun r hr S => ?_, fun r hr => (h.rr r hr).len, fun r hr => (h.rr r hr).at_⟩
  rw [get_dc dcV_dc, rwF_val (srt_mem.mpr (ded_sub.mpr hr))]
  rfl
theorem led_eq (hS : Clo S) {op : Op} (ho : Okd op) {ev : W} {ek : List (Key × W)} {env : Str → List W} (hd : dcW ev S = some ek) (he : EvF ek env op) (hm : mb op ≤ 9000000) (hn : 35 ≤ n) :
    F n .f_led [wO op, ev] S = .ok (.tup [.lst (ldO op env [] ([], [])).1, dcV (ldO op env [] ([], [])).2]) S := by
  obtain ⟨n, rfl⟩ : ∃ m, n = m + 1 := ⟨n - 1, by omega⟩
  have hl := ho.lim
  have h1 := op_eq (n := n) hS ho (by omega)
  have h2 := row_names_eq (n := n) hS ho.fz (by omega)
  rw [rowsL_fz] at h2
  have hb := ho.b
  simp only [bnd, Bool.and_eq_true, decide_eq_true_eq] at hb
  have hlen : (srtS (dedS (rowsL op))).length ≤ 1000 := by rw [srtS_perm.length_eq]; omega
  obtain ⟨m, rfl⟩ : ∃ m, n = m + 5 := ⟨n - 5, by omega⟩
  have h3 := rows_for_eq (n := m) hS hlen hd (ev_names he)
  have hlo := ld_low (m := S.length) (env := env) op [] [] ([], []) ⟨by simp, by simp, by simp⟩ ho.ok (fun r hr => (he.rr r hr).at_) ⟨rfl, rfl⟩
  have hc := cut_pair hS hlo.1 hlo.2
  let S2 : Store := S ++ [.lst [], .dic []]
  have hclo : Clo S2 := by
    have c1 := clo_push (o := .lst []) hS rfl
    have c2 := clo_push (o := .dic []) c1 rfl
    simpa [S2] using c2
  have htr : Tr S2 S.length (S.length + 1) ([], []) := ⟨by simp [S2], by simp [S2, List.getElem?_append_right], by omega⟩
  have h4 := lead_eq (rv := dcV (rwF env (srtS (dedS (rowsL op))))) (env := env) (ra := S.length) (la := S.length + 1) (fz op) [] (m + 5) S2 (.dic [] []) [] ([], []) hclo htr rfl (fun a e => by cases e) ⟨by simp, by simp, by simp⟩ ho.fz.ok (by rw [rowsL_fz]; exact en_of he) (by rw [dep_fz]; simp; omega) (by
    have : mb (fz op) = mb op := by
      clear h1 h2 h3 hlo hc hclo htr he hm hn hl ho hb hlen
      induction op with
      | non f => rfl
      | give f g is => rfl
      | each f x r b ih => simp only [fz, mb, ih]
      | alt f a b iha ihb => simp only [fz, mb, iha, ihb]
      | cond f g t i j b ih => simp only [fz, mb, ih]
      | last f v i b ih => simp only [fz, mb, ih]
    rw [this]; simp; omega) (by
    have : mb (fz op) = mb op := by
      clear h1 h2 h3 hlo hc hclo htr he hm hn hl ho hb hlen
      induction op with
      | non f => rfl
      | give f g is => rfl
      | each f x r b ih => simp only [fz, mb, ih]
      | alt f a b iha ihb => simp only [fz, mb, iha, ihb]
      | cond f g t i j b ih => simp only [fz, mb, ih]
      | last f v i b ih => simp only [fz, mb, ih]
    rw [this]; simp; omega) (by rw [dep_fz]; omega)
  rw [ldO_fz] at h4
  have hup : up S2 S.length (S.length + 1) (ldO op env [] ([], [])) = S ++ [.lst (ldO op env [] ([], [])).1, .dic (ldO op env [] ([], [])).2] := by
    simp [up, S2, List.set_append]
  rw [hup] at h4
  have hS2 : S ++ [Ob.lst [], Ob.dic []] = S2 := rfl
  rw [F_led]
  simp [b_led, h1, h2, h3, hS2, h4, hc]
theorem row_of_eq (hS : Clo S) {op : Op} (ho : Okd op) {ev : W} {ek : List (Key × W)} {env : Str → List W} (hd : dcW ev S = some ek) (he : EvF ek env op) (hm : mb op ≤ 9000000) (hn : 36 ≤ n) :
    F n .f_row_of [wO op, ev] S = .ok (.lst (ldO op env [] ([], [])).1) S := by
  obtain ⟨n, rfl⟩ : ∃ m, n = m + 1 := ⟨n - 1, by omega⟩
  have h1 := led_eq (n := n) hS ho hd he hm (by omega)
  have hlo := ld_low (m := S.length) (env := env) op [] [] ([], []) ⟨by simp, by simp, by simp⟩ ho.ok (fun r hr => (he.rr r hr).at_) ⟨rfl, rfl⟩
  rw [F_row_of]
  simp [b_row_of, h1]
  exact cut_self hS (by simpa [lowW] using hlo.1)
theorem led_no (hS : Clo S) {w f ev : W} (h : F n .f_open_fault [w] S = .ok f S) (hf : isNon f = false) (hl : lowW S.length f = true) : F (n + 2) .f_led [w, ev] S = .exc (noX' f) S := by
  have h1 := opened_no hS h hf hl
  rw [F_led]
  simp [b_led, h1]
  exact cutX_no0 hS hl
theorem row_of_no (hS : Clo S) {w f ev : W} (h : F n .f_open_fault [w] S = .ok f S) (hf : isNon f = false) (hl : lowW S.length f = true) : F (n + 3) .f_row_of [w, ev] S = .exc (noX' f) S := by
  have h1 := led_no (ev := ev) hS h hf hl
  rw [F_row_of]
  simp [b_row_of, h1]
  exact cutX_no0 hS hl
end Sh

set_option Elab.async false
set_option linter.all false
set_option maxRecDepth 100000
set_option maxHeartbeats 4000000
namespace Sh
open PySem L2
variable {n : Nat} {S : Store}
/-! ### the pool -/
structure Pl where
  a : Int
  b : Int
  c : Int
  d : Int
  ha : 0 ≤ a
def Pl.st (p : Pl) (T : Store) : Store := .lst [.int p.a, .int p.b, .int p.c, .int p.d] :: T
variable {p p' : Pl} {T J : Store}
@[simp] theorem st_len : (p.st T).length = T.length + 1 := by simp [Pl.st]
@[simp] theorem st_app : p.st T ++ J = p.st (T ++ J) := rfl
def OkT (T : Store) : Prop := ∀ o ∈ T, lowO (T.length + 1) o = true
theorem clo_st (h : OkT T) : Clo (p.st T) := by
  rw [clo_iff, st_len]
  intro o ho
  simp only [Pl.st, List.mem_cons] at ho
  rcases ho with rfl | ho
  · simp [lowO, lowWs, lowW]
  · exact h o ho
theorem okT_nil : OkT [] := fun o ho => by cases ho
theorem cut_st {w : W} (h : OkT T) (hw : lowW (T.length + 1) w = true) : cutR (p.st T) w (p'.st (T ++ J)) = .ok w (p'.st T) := by
  unfold cutR
  have e : (p'.st T).length = (p.st T).length := by simp
  rw [fzD_low (by rw [st_len]; exact hw)]
  have h1 : okS (p.st T).length (p'.st (T ++ J)) = true := by
    rw [← e, ← st_app, okS_app]; exact clo_st h
  simp only [h1, if_true]
  rw [← e, ← st_app, List.take_left]
theorem cut_st0 {w : W} (h : OkT T) (hw : lowW (T.length + 1) w = true) : cutR (p.st T) w (p'.st T) = .ok w (p'.st T) := by
  have := cut_st (p := p) (p' := p') (J := []) h hw
  simpa using this
@[simp] theorem get_pl {i : Int} : getW gdT (.ref 0) (.int i) (p.st T) = (atI [W.int p.a, .int p.b, .int p.c, .int p.d] i).map fun w => (w, p.st T) := rfl
@[simp] theorem set_0 {v : Int} (h : 0 ≤ v) : setW (.ref 0) (.int 0) (.int v) (p.st T) = some (({ p with a := v, ha := h } : Pl).st T) := rfl
@[simp] theorem set_1 {v : Int} : setW (.ref 0) (.int 1) (.int v) (p.st T) = some (({ p with b := v } : Pl).st T) := rfl
@[simp] theorem set_2 {v : Int} : setW (.ref 0) (.int 2) (.int v) (p.st T) = some (({ p with c := v } : Pl).st T) := rfl
@[simp] theorem set_3 {v : Int} : setW (.ref 0) (.int 3) (.int v) (p.st T) = some (({ p with d := v } : Pl).st T) := rfl
noncomputable def takeH : SM := (sIf (tAnd (tB (e2 eqW (e2 (getW gdT) (eVar 1) (eC (.int 1))) (eC (.int 0)))) (tB (e2 ltW (e2 (getW gdT) (eVar 1) (eC (.int 0))) (eN lenSN [(eVar 0)])))) (sSeq (sSet 3 (e2 (getW gdT) (eVar 0) (e2 (getW gdT) (eVar 1) (eC (.int 0)))))
  (sSeq (sSetIx setW (eVar 1) (eC (.int 0)) (e2 (addW false) (e2 (getW gdT) (eVar 1) (eC (.int 0))) (eC (.int 1))))
  (sSeq (sIf (tB (e2 ltW (eVar 3) (eC (.int 0)))) (sSet 3 (e2 subW (e2 subW (eC (.int 0)) (e2 (mulW false) (eC (.int 2)) (eVar 3))) (eC (.int 1)))) sNil)
  (sIf (tB (e2 geW (eVar 3) (e2 powW (eC (.int 10)) (eC (.int 18))))) (sSetIx setW (eVar 1) (eC (.int 1)) (eVar 3)) (sSetIx setW (eVar 1) (eC (.int 3)) (e2 modW (eN intN [(e2 (addW false) (e2 (addW false) (e2 (mulW false) (e2 (getW gdT) (eVar 1) (eC (.int 3))) (eC (.int 31))) (eVar 3)) (eC (.int 17)))]) (eC (.int 1000000007)))))))) sNil)
noncomputable def takeT : SM := (sSeq (sIf (tB (e2 gtW (e2 (getW gdT) (eVar 1) (eC (.int 1))) (eC (.int 0)))) (sSeq (sSet 4 (e2 modW (eN intN [(e2 (getW gdT) (eVar 1) (eC (.int 1)))]) (eVar 2)))
  (sSeq (sSetIx setW (eVar 1) (eC (.int 1)) (e2 fdivW (e2 (getW gdT) (eVar 1) (eC (.int 1))) (eVar 2)))
  (sRet (eVar 4)))) sNil)
  (sSeq (sSet 5 (e2 modW (eN intN [(e2 (mulW false) (eN intN [(e2 (addW false) (e2 (addW false) (e2 (getW gdT) (eVar 1) (eC (.int 3))) (e2 (mulW false) (eC (.int 7919)) (e2 (getW gdT) (eVar 1) (eC (.int 2))))) (eC (.int 1)))]) (eC (.int 48271)))]) (eC (.int 2147483647))))
  (sSeq (sSet 5 (e2 modW (eN intN [(e2 (mulW false) (eVar 5) (e2 (addW false) (e2 fdivW (eVar 5) (eC (.int 1009))) (eC (.int 69621))))]) (eC (.int 2147483629))))
  (sSeq (sSet 5 (e2 modW (eN intN [(e2 (mulW false) (eVar 5) (e2 (addW false) (e2 fdivW (eVar 5) (eC (.int 2003))) (eC (.int 40692))))]) (eC (.int 2147483399))))
  (sRet (e2 modW (eN intN [(e2 fdivW (eVar 5) (eC (.int 16)))]) (eVar 2)))))))
theorem b_take_eq (C : Fn → Cal) : b__law_take C = sSeq (sSetIx setW (eVar 1) (eC (.int 2)) (e2 (addW false) (e2 (getW gdT) (eVar 1) (eC (.int 2))) (eC (.int 1)))) (sSeq takeH takeT) := rfl
theorem len_scr0 {ns : List Int} : lenN [.scr ns] S = some (.int ns.length, S) := rfl
theorem headH {ns : List Int} {k : Int} (q : Pl) : ∃ (q' : Pl) (x3 : Option W), takeH [some (.scr ns), some (.ref 0), some (.int k), none, none, none] (q.st T) = .nx [some (.scr ns), some (.ref 0), some (.int k), x3, none, none] (q'.st T) := by
  by_cases hb : q.b = 0
  · by_cases hl : q.a < ns.length
    · obtain ⟨j, hj⟩ : ∃ j : Nat, q.a = j := ⟨q.a.toNat, by have := q.ha; omega⟩
      have hjl : j < ns.length := by omega
      obtain ⟨c, hc⟩ : ∃ c, ns[j]? = some c := ⟨_, List.getElem?_eq_getElem hjl⟩
      have hg : getW gdT (.scr ns) (.int q.a) (q.st T) = some (.int c, q.st T) := by rw [hj, get_scr, atI_n, hc]; rfl
      have ha1 : 0 ≤ q.a + 1 := by have := q.ha; omega
      unfold takeH
      by_cases hc0 : c < 0
      · by_cases hc1 : (1000000000000000000 : Int) ≤ 0 - 2 * c - 1
        · exact ⟨{ q with a := q.a + 1, ha := ha1, b := 0 - 2 * c - 1 }, some (.int (0 - 2 * c - 1)), by
            simp at hc1
            simp [hb, len_scr0, hl, hg, set_0 ha1, hc0, hc1, powW]⟩
        · exact ⟨{ q with a := q.a + 1, ha := ha1, d := (q.d * 31 + (0 - 2 * c - 1) + 17) % 1000000007 }, some (.int (0 - 2 * c - 1)), by
            have hc2 : ¬ (1000000000000000000 : Int) ≤ -(2 * c) - 1 := by omega
            simp [hb, len_scr0, hl, hg, set_0 ha1, hc0, hc2, powW]⟩
      · by_cases hc1 : (1000000000000000000 : Int) ≤ c
        · exact ⟨{ q with a := q.a + 1, ha := ha1, b := c }, some (.int c), by
            simp [hb, len_scr0, hl, hg, set_0 ha1, hc0, hc1, powW]⟩
        · exact ⟨{ q with a := q.a + 1, ha := ha1, d := (q.d * 31 + c + 17) % 1000000007 }, some (.int c), by
            simp [hb, len_scr0, hl, hg, set_0 ha1, hc0, hc1, powW]⟩
    · exact ⟨q, none, by simp [takeH, hb, len_scr0, hl]⟩
  · exact ⟨q, none, by simp [takeH, hb]⟩
theorem take_eq (hT : OkT T) {ns : List Int} {k : Nat} (hk : 0 < k) (hk2 : k < 1000000) : ∃ (r : Nat) (p' : Pl), F (n + 1) .f__law_take [.scr ns, .ref 0, .int k] (p.st T) = .ok (.int r) (p'.st T) ∧ r < k := by
  have hmod : ∀ x : Int, ∃ r : Nat, x % (k : Int) = r ∧ r < k := fun x => by
    have h1 := Int.emod_nonneg x (b := (k : Int)) (by omega)
    have h2 := Int.emod_lt_of_pos x (b := (k : Int)) (by omega)
    exact ⟨(x % (k : Int)).toNat, by omega, by omega⟩
  have hk0 : (0 : Int) < k := by omega
  have hk1 : (k : Int) < 1073741824 := by omega
  -- behind the cell
  have tail : ∀ (q : Pl) (x3 : Option W), ∃ (r : Nat) (p' : Pl), RS.fin (p.st T) (takeT [some (.scr ns), some (.ref 0), some (.int k), x3, none, none] (q.st T)) = .ok (.int r) (p'.st T) ∧ r < k := fun q x3 => by
    by_cases hb : 0 < q.b
    · obtain ⟨r, h1, h2⟩ := hmod q.b
      refine ⟨r, { q with b := q.b / k }, ?_, h2⟩
      have hk0' : 0 < k := by omega
      simp [takeT, hb, hk0', hk1, h1]
      exact cut_st0 (w := .int r) hT rfl
    · simp [takeT, hb]
      generalize (q.d + 7919 * q.c + 1) * 48271 = x
      have h1 : 0 ≤ x % 2147483647 ∧ x % 2147483647 < 2147483647 := ⟨Int.emod_nonneg _ (by decide), Int.emod_lt_of_pos _ (by decide)⟩
      generalize x % 2147483647 = y at h1
      rw [if_pos (.inl (by omega))]
      generalize y * (y / 1009 + 69621) = u
      have h2 : 0 ≤ u % 2147483629 ∧ u % 2147483629 < 2147483629 := ⟨Int.emod_nonneg _ (by decide), Int.emod_lt_of_pos _ (by decide)⟩
      generalize u % 2147483629 = v at h2
      rw [if_pos (.inl (by omega))]
      generalize v * (v / 2003 + 40692) % 2147483399 / 16 = z
      obtain ⟨r, h3, h4⟩ := hmod z
      refine ⟨r, ⟨q, ?_⟩, h4⟩
      rw [if_pos (by omega), h3]
      exact cut_st0 (w := .int r) hT rfl
  obtain ⟨q, x3, h1⟩ := headH (T := T) (ns := ns) (k := k) { p with c := p.c + 1 }
  obtain ⟨r, p', h2, h3⟩ := tail q x3
  refine ⟨r, p', ?_, h3⟩
  rw [F__law_take, b_take_eq]
  simp only [run3, startE_cons, startE0, List.replicate, sSeq_ap, sSetIx_ap, e2_ap, eVar_ap, eC_ap, List.getElem?_cons_zero, List.getElem?_cons_succ, R.bind_ok, get_pl, atI_2, Option.map_some, lift_some, add_int, R.thn_ok, set_2, RS.seq_nx, h1]
  exact h2
end Sh

set_option Elab.async false
set_option linter.all false
set_option maxRecDepth 100000
set_option maxHeartbeats 4000000
namespace Sh
open PySem L2
variable {n : Nat} {S : Store}
/-! ### refused, told -/
theorem flat_nil : flat [] = [] := rfl
theorem flat_cons {a b : EM} {r : List (EM × EM)} : flat ((a, b) :: r) = a :: b :: flat r := rfl
theorem lst0 {m : Bool} : lstN m [] S = some (mkL m [] S) := rfl
def ev0 : List (Key × W) := [(.inr "r", .lst []), (.inr "s", .lst []), (.inr "t", .lst []), (.inr "p", .lst [])]
def rowsB : List Str := ["r", "s", "t", "p"]
theorem ev0_ok {xs : List Str} (h : ∀ x ∈ xs, x ∈ rowsB) : EvOk ev0 (fun _ => []) xs := by
  refine ⟨fun x hx => ⟨true, ?_⟩, fun x _ => ⟨by simp, by simp, [], rfl, rfl⟩⟩
  have hr : ∀ x ∈ rowsB, (match valW ev0 (.inr x) with | some (.lst []) => true | _ => false) = true := by decide +kernel
  have := hr x (h x hx)
  split at this
  · rename_i e; rw [e]; rfl
  · cases this
theorem dic_ev0 : dicN false [.str "r", .lst [], .str "s", .lst [], .str "t", .lst [], .str "p", .lst []] S = some (dcV ev0, S) := by
  have : mergeW [] ev0 = ev0 := by kernel_rfl
  show some (mkD false (mergeW [] ev0) S) = _
  rw [this]; rfl
theorem fz_sXV {x : Exn} {w : W} (h : fFld "spot" fcs_spot x = some w) {j : Nat} {e : En} : sXV j (fFld "spot" fcs_spot) x e S = .nx (e.set j (some w)) S := by
  simp only [sXV, h]
theorem refused_ok (hS : Clo S) {op : Op} (h : Okd op) (hr : ∀ x ∈ rowsL op, x ∈ rowsB) (hm : mb op ≤ 9000000) (hn : 38 ≤ n) : F n .f__law_refused [wO op] S = .ok .non S := by
  obtain ⟨n, rfl⟩ : ∃ m, n = m + 1 := ⟨n - 1, by omega⟩
  have h1 := row_of_eq (n := n) hS h (ev := dcV ev0) dcV_dc (ev0_ok hr) hm (by omega)
  rw [F__law_refused]
  simp only [b__law_refused, run1, startE_cons, startE0, List.replicate, sSeq_ap, sSet_ap, eC_ap, R.thn_ok, List.set_cons_zero, List.set_cons_succ, RS.seq_nx, sTry_ap, sExpr_ap, eCall_ap, evs_cons, evs_nil, eVar_ap, List.getElem?_cons_zero, List.getElem?_cons_succ, R.bind_ok, eN_ap, flat_cons, flat_nil, lst0, mkL_f, lift_some, dic_ev0, h1, sRet_ap, fin_ret]
  exact cut_self (w := .non) hS rfl
theorem refused_no (hS : Clo S) {w f : W} (h : F n .f_open_fault [w] S = .ok f S) (hf : isNon f = false) (hl : lowW S.length f = true) : F (n + 4) .f__law_refused [w] S = .ok f S := by
  have h1 := row_of_no (ev := dcV ev0) hS h hf hl
  rw [F__law_refused]
  simp only [b__law_refused, run1, startE_cons, startE0, List.replicate, sSeq_ap, sSet_ap, eC_ap, R.thn_ok, List.set_cons_zero, List.set_cons_succ, RS.seq_nx, sTry_ap, sExpr_ap, eCall_ap, evs_cons, evs_nil, eVar_ap, List.getElem?_cons_zero, List.getElem?_cons_succ, R.bind_ok, eN_ap, flat_cons, flat_nil, lst0, mkL_f, lift_some, dic_ev0, h1, sRet_ap, R.thn_exc, no_cls, in_NoOpen, hand_cons, sub_NoOpen_NoOpen, no_spot, fz_sXV no_spot, goneS_nx, List.length_cons, List.length_nil, RS.seq_nx, fin_ret]
  simp
  exact cut_self hS hl
theorem says_eq (hS : Clo S) {a b : Bool} : F (n + 1) .f__law_says [.bl a, .bl b] S = .ok (.bl (decide (a = b))) S := by
  rw [F__law_says]
  simp [b__law_says, eqW, scV, L2.scal, hS]
theorem eqD_non : eqDW .non .non S = some (.bl true, S) := by kernel_rfl
theorem eqD_nil : eqDW (.tup []) (.tup []) S = some (.bl true, S) := by kernel_rfl
theorem neD_210 : neDW (.tup [.int 2, .int 1, .int 0]) (.tup [.int 2, .int 1, .int 0]) S = some (.bl false, S) := by kernel_rfl
theorem told_ok (hS : Clo S) {op : Op} (h : Okd op) (hr : ∀ x ∈ rowsL op, x ∈ rowsB) (hm : mb op ≤ 9000000) (hn : 39 ≤ n) : F n .f__law_told [wO op, .bl true] S = .ok (.bl true) S := by
  obtain ⟨n, rfl⟩ : ∃ m, n = m + 2 := ⟨n - 2, by omega⟩
  have hl := h.lim
  have h1 := fun k (hk : 31 ≤ k) => open_fault_eq (n := k) hS h.ok (by omega) (by omega) (by omega)
  simp only [ofW, h.b, if_true] at h1
  have h2 := is_open_of hS (h1 n (by omega))
  have h3 := refused_ok (n := n + 1) hS h hr hm (by omega)
  have h4 := says_eq (n := n) hS (a := true) (b := true)
  rw [F__law_told]
  simp [b__law_told, h1 (n + 1) (by omega), h2, h3, h4, isNon, eqD_non, hS]
theorem told_no (hS : Clo S) {op : Op} (h : okO [] op = true) (hp : parts op ≤ 1000) (hd : dep op ≤ 14) (hb : bnd op = false) (hn : 44 ≤ n) : F n .f__law_told [wO op, .bl false] S = .ok (.bl true) S := by
  obtain ⟨n, rfl⟩ : ∃ m, n = m + 6 := ⟨n - 6, by omega⟩
  have h1 := fun k (hk : 35 ≤ k) => open_fault_eq (n := k) hS h hp (by omega) (by omega)
  simp only [ofW, hb, Bool.false_eq_true, if_false] at h1
  have h2 := is_open_of hS (h1 (n + 4) (by omega))
  have h3 := refused_no (n := n + 1) hS (h1 (n + 1) (by omega)) rfl rfl
  have h4 := says_eq (n := n + 4) hS (a := false) (b := false)
  rw [F__law_told]
  simp [b__law_told, h1 (n + 5) (by omega), h2, h3, h4, isNon, eqD_nil, hS]
end Sh

set_option Elab.async false
set_option linter.all false
set_option maxRecDepth 100000
set_option maxHeartbeats 4000000
namespace Sh
open PySem L2
variable {n : Nat} {S : Store}
/-! ### wide ones -/
def pairUp : List Op → List Op
  | a :: b :: r => .alt false a b :: pairUp r
  | l => l
def loopO : Nat → List Op → Op
  | 0, rows => rows.headD (.non false)
  | k + 1, rows => if rows.length ≤ 1 then rows.headD (.non false) else loopO k (pairUp rows)
def leafO : Op := .give false false []
def wideO (k : Nat) : Op := loopO k (List.replicate k leafO)
theorem pair_len : ∀ (l : List Op), (pairUp l).length = l.length - l.length / 2
  | [] => rfl
  | [a] => by simp [pairUp]
  | a :: b :: r => by
    have := pair_len r
    simp only [pairUp, List.length_cons]
    omega
theorem pair_at : ∀ (l : List Op) (k : Nat) (a b : Op), l[2 * k]? = some a → l[2 * k + 1]? = some b → (pairUp l)[k]? = some (.alt false a b)
  | [], k, a, b, h1, h2 => by simp at h1
  | [x], k, a, b, h1, h2 => by
    have := (List.getElem?_eq_some_iff.mp h2).1
    simp at this
  | x :: y :: r, 0, a, b, h1, h2 => by
    simp at h1 h2
    subst h1 h2
    rfl
  | x :: y :: r, k + 1, a, b, h1, h2 => by
    have e1 : 2 * (k + 1) = 2 * k + 1 + 1 := by omega
    rw [e1, List.getElem?_cons_succ, List.getElem?_cons_succ] at h1
    have e2 : 2 * (k + 1) + 1 = (2 * k + 1) + 1 + 1 := by omega
    rw [e2, List.getElem?_cons_succ, List.getElem?_cons_succ] at h2
    simp only [pairUp, List.getElem?_cons_succ]
    exact pair_at r k a b h1 h2
theorem pair_drop : ∀ (l : List Op), (pairUp l).drop (l.length / 2) = l.drop (2 * (l.length / 2))
  | [] => rfl
  | [a] => by simp [pairUp]
  | a :: b :: r => by
    have := pair_drop r
    have e1 : (a :: b :: r).length / 2 = r.length / 2 + 1 := by simp only [List.length_cons]; omega
    have e2 : 2 * (r.length / 2 + 1) = 2 * (r.length / 2) + 1 + 1 := by omega
    rw [e1, e2]
    simp only [pairUp, List.drop_succ_cons]
    exact this
/-- [('choice', rows[2k], rows[2k+1]) for k in range(len(rows) // 2)] + rows[2 * (len(rows) // 2):] -/
theorem pair_split (l : List Op) : (pairUp l).take (l.length / 2) ++ l.drop (2 * (l.length / 2)) = pairUp l := by
  rw [← pair_drop, List.take_append_drop]
theorem cut_drop {xs : List W} {k : Nat} (h : k ≤ xs.length) : cutL xs (some (k : Int)) none = xs.drop k := by
  unfold cutL
  rw [HT.sIx_none, HT.sIx_nat, Nat.min_eq_left h]
  exact List.take_of_length_le (by rw [List.length_drop]; omega)
theorem loop_more : ∀ (k : Nat) (rows : List Op), rows.length ≤ k + 1 → loopO (k + 1) rows = loopO k rows
  | 0, rows, h => by
    simp only [loopO]
    rw [if_pos (by omega)]
  | k + 1, rows, h => by
    rw [loopO]
    conv => rhs; rw [loopO]
    split
    · rfl
    · rename_i h1
      exact loop_more k (pairUp rows) (by rw [pair_len]; omega)
theorem loop_step {k : Nat} {rows : List Op} (h1 : 1 < rows.length) (h : rows.length ≤ k + 1) : loopO k (pairUp rows) = loopO k rows := by
  rw [← loop_more k rows h, loopO, if_neg (by omega)]
def okL (rows : List Op) : Prop := ∀ op ∈ rows, daW (wO op) = true
theorem okL_pair : ∀ {l : List Op}, okL l → okL (pairUp l)
  | [], h => h
  | [a], h => h
  | a :: b :: r, h => by
    intro op hop
    simp only [pairUp, List.mem_cons] at hop
    rcases hop with rfl | hop
    · have h1 := h a (by simp)
      have h2 := h b (by simp)
      simp [wO, mkR, daW, daWs, h1, h2]
      decide
    · exact okL_pair (l := r) (fun q hq => h q (by simp [hq])) op hop
theorem loop_ok : ∀ (k : Nat) (rows : List Op), okL rows → daW (wO (loopO k rows)) = true
  | 0, rows, h => by
    cases rows with
    | nil => decide +kernel
    | cons a r => exact h a (by simp)
  | k + 1, rows, h => by
    rw [loopO]
    split
    · cases rows with
      | nil => decide +kernel
      | cons a r => exact h a (by simp)
    · exact loop_ok k _ (okL_pair h)
theorem leaf_ok (k : Nat) : okL (List.replicate k leafO) := fun op h => by
  rw [List.eq_of_mem_replicate h]; decide +kernel
theorem wide_eq (hS : Clo S) {x0 x1 : W} {m : Nat} (hm : 1 ≤ m) (hm2 : m ≤ 1000) : F (n + 1) .f__law_wide [x0, x1, .int m] S = .ok (wO (wideO ((m + 1) / 2))) S := by
  have hdiv : ((m : Int) + 1) / 2 = (((m + 1) / 2 : Nat) : Int) := by omega
  generalize hk : (m + 1) / 2 = k at hdiv
  have hk1 : 1 ≤ k := by omega
  have hk2 : k ≤ 600 := by omega
  have hlc : eLc false (iRange1 (e2 fdivW (e2 (addW false) (eVar 2) (eC (.int 1))) (eC (.int 2)))) [5] (gVar 5) tYesM (eN tupN [(eC (.str ("give" : Str))), (eN tupN [])]) [some x0, some x1, some (.int m), none, none, none] S = .ok (.lst ((List.replicate k leafO).map wO)) S := by
    obtain ⟨xs, S', h1, h2, h3, h4⟩ := lc_inv (m := false) (it := iRange1 (e2 fdivW (e2 (addW false) (eVar 2) (eC (.int 1))) (eC (.int 2)))) (own := [5]) (g := gVar 5) (t := tYesM) (a := eN tupN [(eC (.str ("give" : Str))), (eN tupN [])]) (e := [some x0, some x1, some (.int m), none, none, none]) (S := S) (J := itR 0 k) (fun i acc S' => S' = S ∧ i ≤ k ∧ acc = (List.replicate i leafO).map wO) k (by have := fuel_ge; omega) (iRange1_ok (by simp [hdiv]) (by omega)) ⟨rfl, Nat.zero_le _, rfl⟩ (fun i acc S h => h.2.1) (by
      rintro i acc S' ⟨rfl, hi, rfl⟩
      by_cases hil : i < k
      · right
        refine ⟨.int i, _, _, true, _, by simp [itR, hil], rfl, rfl, .inr ⟨rfl, wO leafO, S', by simp [wO, leafO, mkR], by simp; omega, rfl, hil, ?_⟩⟩
        rw [List.replicate_succ', List.map_append]; rfl
      · left
        have hie : i = k := by omega
        exact ⟨by simp [itR, hie], hie⟩)
    rw [h1, h2, h4]; rfl
  rw [F__law_wide]
  simp only [b__law_wide, run3, startE_cons, startE0, List.replicate, sSeq_ap, sSet_ap, hlc, R.thn_ok, RS.seq_nx, List.set_cons_zero, List.set_cons_succ]
  refine fin_while (fun j e S' => S' = S ∧ ∃ (rows : List Op) (x4 x5 : Option W), e = [some x0, some x1, some (.int m), some (.lst (rows.map wO)), x4, x5] ∧ rows.length ≤ j ∧ 1 ≤ rows.length ∧ rows.length ≤ k ∧ loopO k rows = wideO k ∧ okL rows) k (by have := fuel_ge; omega) ⟨rfl, List.replicate k leafO, none, none, rfl, by rw [List.length_replicate]; exact Nat.le_refl _, by rw [List.length_replicate]; exact hk1, by rw [List.length_replicate]; exact Nat.le_refl _, rfl, leaf_ok k⟩ ?_
  rintro j e S' ⟨rfl, rows, x4, x5, rfl, hj, hr1, hr2, hlo, hok⟩
  by_cases hl : rows.length ≤ 1
  · have hgt : decide ((1 : Int) < ((rows.length : Nat) : Int)) = false := decide_eq_false (by omega)
    refine ⟨false, S', by simp only [tB_ap, e2_ap, eN_ap, evs_cons, evs_nil, eVar_ap, eC_ap, List.getElem?_cons_zero, List.getElem?_cons_succ, R.bind_ok, lenS_lst, List.length_map, lift_some, gt_int, hgt, bol_bl, liftB_some], .inl ⟨rfl, ?_⟩⟩
    have hl1 : rows.length = 1 := by omega
    obtain ⟨a, rfl⟩ := List.length_eq_one_iff.mp hl1
    have ha : wideO k = a := by
      rw [← hlo]
      cases k with
      | zero => omega
      | succ k => rw [loopO, if_pos (by simp)]; rfl
    rw [ha]
    simp
    exact cut_self hS (da_low (hok a (by simp)))
  · have hgt : decide ((1 : Int) < ((rows.length : Nat) : Int)) = true := decide_eq_true (by omega)
    refine ⟨true, S', by simp only [tB_ap, e2_ap, eN_ap, evs_cons, evs_nil, eVar_ap, eC_ap, List.getElem?_cons_zero, List.getElem?_cons_succ, R.bind_ok, lenS_lst, List.length_map, lift_some, gt_int, hgt, bol_bl, liftB_some], .inr ⟨rfl, j - 1, by omega, ?_⟩⟩
    have hd2 : ((rows.length : Int)) / 2 = ((rows.length / 2 : Nat) : Int) := by omega
    have hpl := pair_len rows
    have hf2 : (0 : Int) < 2 ∧ (2 : Int) < 1073741824 := ⟨by decide, by decide⟩
    have hit : (e2 fdivW (eN lenSN [(eVar 3)]) (eC (.int 2))) [some x0, some x1, some (.int m), some (.lst (rows.map wO)), x4, x5] S' = .ok (.int ((rows.length / 2 : Nat) : Int)) S' := by
      simp only [e2_ap, eN_ap, evs_cons, evs_nil, eVar_ap, eC_ap, List.getElem?_cons_zero, List.getElem?_cons_succ, R.bind_ok, lenS_lst, List.length_map, lift_some, fdiv_int, hf2, and_self, if_true, hd2]
    have hlc2 : eLc false (iRange1 (e2 fdivW (eN lenSN [(eVar 3)]) (eC (.int 2)))) [5] (gVar 5) tYesM (eN tupN [(eC (.str ("choice" : Str))), (e2 (getW gdT) (eVar 3) (e2 (mulW false) (eC (.int 2)) (eVar 5))), (e2 (getW gdT) (eVar 3) (e2 (addW false) (e2 (mulW false) (eC (.int 2)) (eVar 5)) (eC (.int 1))))]) [some x0, some x1, some (.int m), some (.lst (rows.map wO)), x4, x5] S' = .ok (.lst (((pairUp rows).take (rows.length / 2)).map wO)) S' := by
      obtain ⟨xs, S2, h1, h2, h3, h4⟩ := lc_inv (m := false) (it := iRange1 (e2 fdivW (eN lenSN [(eVar 3)]) (eC (.int 2)))) (own := [5]) (g := gVar 5) (t := tYesM) (a := eN tupN [(eC (.str ("choice" : Str))), (e2 (getW gdT) (eVar 3) (e2 (mulW false) (eC (.int 2)) (eVar 5))), (e2 (getW gdT) (eVar 3) (e2 (addW false) (e2 (mulW false) (eC (.int 2)) (eVar 5)) (eC (.int 1))))]) (e := [some x0, some x1, some (.int m), some (.lst (rows.map wO)), x4, x5]) (S := S') (J := itR 0 (rows.length / 2)) (fun i acc S2 => S2 = S' ∧ i ≤ rows.length / 2 ∧ acc = ((pairUp rows).take i).map wO) (rows.length / 2) (by have := fuel_ge; omega) (iRange1_ok hit (by omega)) ⟨rfl, Nat.zero_le _, by simp⟩ (fun i acc S h => h.2.1) (by
        rintro i acc S2 ⟨rfl, hi, rfl⟩
        by_cases hil : i < rows.length / 2
        · right
          obtain ⟨a, ha⟩ : ∃ a, rows[2 * i]? = some a := ⟨_, List.getElem?_eq_getElem (by omega)⟩
          obtain ⟨b, hb⟩ : ∃ b, rows[2 * i + 1]? = some b := ⟨_, List.getElem?_eq_getElem (by omega)⟩
          have hp := pair_at rows i a b ha hb
          have i1 : (2 : Int) * (i : Int) = ((2 * i : Nat) : Int) := by omega
          have i2 : (2 : Int) * (i : Int) + 1 = ((2 * i + 1 : Nat) : Int) := by omega
          have g1 : getW gdT (.lst (rows.map wO)) (.int (2 * (i : Int))) S2 = some (wO a, S2) := by rw [i1, get_lst, atI_n, List.getElem?_map, ha]; rfl
          have g2 : getW gdT (.lst (rows.map wO)) (.int (2 * (i : Int) + 1)) S2 = some (wO b, S2) := by rw [i2, get_lst, atI_n, List.getElem?_map, hb]; rfl
          refine ⟨.int i, _, _, true, _, by simp [itR, hil], rfl, rfl, .inr ⟨rfl, wO (.alt false a b), S2, ?_, by simp; omega, rfl, hil, ?_⟩⟩
          · simp only [eN_ap, evs_cons, evs_nil, eC_ap, R.bind_ok, e2_ap, eVar_ap, wipeE, List.set_cons_zero, List.set_cons_succ, List.getElem?_cons_zero, List.getElem?_cons_succ, mul_int]
            have hc : ((-(2 ^ 64) : Int) < 2 ∧ (2 : Int) < 2 ^ 64) ∨ (-(2 ^ 64) < (i : Int) ∧ (i : Int) < 2 ^ 64) := .inl ⟨by decide, by decide⟩
            simp only [hc, if_true, lift_some, R.bind_ok, g1, add_int, g2, tupN_ap, List.length_cons, List.length_nil]
            rw [if_pos (by decide)]
            rfl
          · rw [List.take_add_one, hp]; simp
        · left
          have hie : i = rows.length / 2 := by omega
          exact ⟨by simp [itR, hie], hie⟩)
      rw [h1, h2, h4]; rfl
    have hcut : cutL (rows.map wO) (some (2 * ((rows.length / 2 : Nat) : Int))) none = (rows.drop (2 * (rows.length / 2))).map wO := by
      have : (2 : Int) * ((rows.length / 2 : Nat) : Int) = ((2 * (rows.length / 2) : Nat) : Int) := by omega
      rw [this, cut_drop (by rw [List.length_map]; omega), List.map_drop]
    have hsp := pair_split rows
    have happ : ((pairUp rows).take (rows.length / 2)).map wO ++ (rows.drop (2 * (rows.length / 2))).map wO = (pairUp rows).map wO := by rw [← List.map_append, hsp]
    have hadd : addW false (.lst (((pairUp rows).take (rows.length / 2)).map wO)) (.lst ((rows.drop (2 * (rows.length / 2))).map wO)) S' = some (.lst ((pairUp rows).map wO), S') := by
      rw [add_lst, if_pos (by simp only [szl, List.length_map, List.length_take, List.length_drop]; omega), happ]; rfl
    simp only [sSeq_ap, sSet_ap, hlc2, R.thn_ok, RS.seq_nx, List.set_cons_zero, List.set_cons_succ, e2_ap, eVar_ap, List.getElem?_cons_zero, List.getElem?_cons_succ, R.bind_ok, eCut_ap, evO_some, evO_none, eN_ap, evs_cons, evs_nil, eC_ap, lenS_lst, List.length_map, lift_some, fdiv_int]
    have hc : ((-(2 ^ 64) : Int) < 2 ∧ (2 : Int) < 2 ^ 64) ∨ (-(2 ^ 64) < ((rows.length / 2 : Nat) : Int) ∧ ((rows.length / 2 : Nat) : Int) < 2 ^ 64) := .inl ⟨by decide, by decide⟩
    simp only [hf2, and_self, if_true, lift_some, R.bind_ok, mul_int, hd2, hc, cut_lstv, hcut, mkL_f, hadd, R.thn_ok, List.set_cons_zero, List.set_cons_succ]
    refine ⟨trivial, pairUp rows, _, _, rfl, by omega, by omega, by omega, ?_, okL_pair hok⟩
    rw [loop_step (by omega) (by omega)]; exact hlo
end Sh

set_option Elab.async false
set_option linter.all false
set_option maxRecDepth 100000
set_option maxHeartbeats 4000000
namespace Sh
open PySem L2
variable {n : Nat} {S T : Store} {p : Pl}
def wideCk (k : Nat) : Bool := okO [] (wideO k) && (decide (dep (wideO k) ≤ 7) && (decide (parts (wideO k) + 1 = 2 * k) && (decide (gives (wideO k) = k) && (decide (mxN (wideO k) = 0) && (decide (rowsL (wideO k) = []) && (decide (keptL (wideO k) = []) && decide (mb (wideO k) ≤ 100)))))))
theorem wide_ck : ∀ k, k < 22 → k ≠ 0 → wideCk k = true := by decide +kernel
structure Plain (op : Op) : Prop where
  ok : okO [] op = true
  mx : mxN op = 0
  rows : rowsL op = []
  mbs : mb op ≤ 1000
theorem wide_ok {k : Nat} (h1 : 1 ≤ k) (h2 : k ≤ 21) : Plain (wideO k) ∧ dep (wideO k) ≤ 7 ∧ parts (wideO k) + 1 = 2 * k ∧ gives (wideO k) = k ∧ keptL (wideO k) = [] := by
  have := wide_ck k (by omega) (by omega)
  simp only [wideCk, Bool.and_eq_true, decide_eq_true_eq] at this
  obtain ⟨a, b, c, d, e, f, g, h⟩ := this
  exact ⟨⟨a, e, f, by omega⟩, b, c, d, g⟩
theorem even_eq (hT : OkT T) {ns : List Int} {m : Nat} (h1 : 1 ≤ m) (h2 : m ≤ 41) : ∃ (op : Op) (p' : Pl), F (n + 2) .f__law_even [.scr ns, .ref 0, .int m] (p.st T) = .ok (wO op) (p'.st T) ∧ Plain op ∧ dep op ≤ 8 ∧ parts op = m ∧ (m = 40 → gives op = 20) ∧ keptL op = [] := by
  have hc := clo_st (p := p) hT
  by_cases hodd : m % 2 = 1
  · have hmod : (m : Int) % 2 = 1 := by omega
    have hw := wide_eq (n := n) hc (x0 := .scr ns) (x1 := .ref 0) h1 (by omega)
    obtain ⟨a, b, c, d, e⟩ := wide_ok (k := (m + 1) / 2) (by omega) (by omega)
    refine ⟨wideO ((m + 1) / 2), p, ?_, a, by omega, by omega, by omega, e⟩
    have hda := (frz_O a.ok).2.1
    rw [F__law_even]
    simp [b__law_even, hmod, hw]
    exact cut_self hc (da_low hda)
  · have hmod : (m : Int) % 2 = 0 := by omega
    obtain ⟨r, p1, t1, t2⟩ := take_eq (n := n) (p := p) hT (ns := ns) (k := 2) (by decide) (by decide)
    have hc1 := clo_st (p := p1) hT
    have hw := wide_eq (n := n) hc1 (x0 := .scr ns) (x1 := .ref 0) (m := m - 1) (by omega) (by omega)
    have hm1 : ((m - 1 : Nat) : Int) = (m : Int) - 1 := by omega
    rw [hm1] at hw
    have hk : (m - 1 + 1) / 2 = m / 2 := by omega
    rw [hk] at hw
    obtain ⟨a, b, c, d, e⟩ := wide_ok (k := m / 2) (by omega) (by omega)
    let op : Op := .cond false false (decide (r = 0)) (.atom false (.int 1)) (.atom false (.str "1")) (wideO (m / 2))
    have hop : Plain op := by
      refine ⟨?_, a.mx, a.rows, a.mbs⟩
      show ((okI [] (.atom false (.int 1)) && okI [] (.atom false (.str "1"))) && okO [] (wideO (m / 2))) = true
      rw [a.ok]; decide +kernel
    have hda := (frz_O hop.ok).2.1
    refine ⟨op, p1, ?_, hop, by show dep (wideO (m / 2)) + 1 ≤ 8; omega, by show parts (wideO (m / 2)) + 1 = m; omega, fun h => by show gives (wideO (m / 2)) = 20; omega, e⟩
    have hr : r = 0 ∨ r = 1 := by omega
    rw [F__law_even]
    rcases hr with rfl | rfl
    · simp at t1
      simp [b__law_even, hmod, t1, hw]
      have : wO op = .tup [.str "when", .tup [.str "alike", .tup [.str "atom", .int 1], .tup [.str "atom", .str "1"]], wO (wideO (m / 2))] := rfl
      simp at this
      rw [← this]
      exact cut_st0 hT (da_low hda)
    · simp at t1
      simp [b__law_even, hmod, t1, hw]
      have : wO op = .tup [.str "when", .tup [.str "unlike", .tup [.str "atom", .int 1], .tup [.str "atom", .str "1"]], wO (wideO (m / 2))] := rfl
      simp at this
      rw [← this]
      exact cut_st0 hT (da_low hda)
structure Deep (d : Nat) (op : Op) : Prop where
  ok : okO [] op = true
  dp : dep op = d
  pt : parts op ≤ 2 * d
  mx : mxN op = 0
  rows : rowsL op = []
  kept : ∀ v ∈ keptL op, v = "v"
  mbs : mb op ≤ d
theorem ded_const {v : Str} : ∀ {xs : List Str}, (∀ x ∈ xs, x = v) → (dedS xs).length ≤ 1 := by
  have gen : ∀ (xs acc : List Str), (∀ x ∈ xs, x = v) → (acc = [] ∨ acc = [v]) → (xs.foldl (fun ks k => if k ∈ ks then ks else ks ++ [k]) acc).length ≤ 1 := by
    intro xs
    induction xs with
    | nil => rintro acc _ (rfl | rfl) <;> simp
    | cons x xs ih =>
      intro acc h ha
      have hx := h x List.mem_cons_self
      subst hx
      simp only [List.foldl_cons]
      refine ih _ (fun y hy => h y (List.mem_cons_of_mem _ hy)) ?_
      rcases ha with rfl | rfl
      · right; rfl
      · right; simp
  intro xs h
  exact gen xs [] h (.inl rfl)
def InvD (ns : List Int) (m : Nat) (T : Store) (i : Nat) (e : En) (S' : Store) : Prop := i ≤ m - 1 ∧ ∃ (op : Op) (p' : Pl) (x4 x5 : Option W), S' = p'.st T ∧ e = [some (.scr ns), some (.ref 0), some (.int m), some (wO op), x4, x5] ∧ Deep (i + 1) op
theorem deep_eq (hT : OkT T) {ns : List Int} {m : Nat} (h1 : 1 ≤ m) (h2 : m ≤ 20) : ∃ (op : Op) (p' : Pl), F (n + 2) .f__law_deep [.scr ns, .ref 0, .int m] (p.st T) = .ok (wO op) (p'.st T) ∧ Deep m op := by
  obtain ⟨r, p1, t1, t2⟩ := take_eq (n := n) (p := p) hT (ns := ns) (k := 2) (by decide) (by decide)
  have hr : r = 0 ∨ r = 1 := by omega
  let op0 : Op := if r = 0 then .non false else .give false false [.atom false (.int 1)]
  have hd0 : Deep 1 op0 := by
    rcases hr with rfl | rfl
    · exact ⟨by decide +kernel, rfl, by decide, rfl, rfl, (fun v hv => by cases hv), by decide⟩
    · exact ⟨by decide +kernel, rfl, by decide, rfl, rfl, (fun v hv => by cases hv), by decide⟩
  -- the loop
  have loop : ∀ (x4 x5 : Option W), ∃ (op : Op) (p' : Pl), RS.fin (p.st T) ((sFor (iRange1 (e2 subW (eVar 2) (eC (.int 1)))) (gVar 4) (sSeq (sSet 5 (eCall (F (n + 1) .f__law_take) [(eVar 0), (eVar 1), (eC (.int 3))]))
  (sSeq (sIf (tB (e2 eqW (eVar 5) (eC (.int 0)))) (sSet 3 (eN tupN [(eC (.str ("choice" : Str))), (eVar 3), (eN tupN [(eC (.str ("none" : Str)))])])) sNil)
  (sSeq (sIf (tB (e2 eqW (eVar 5) (eC (.int 1)))) (sSet 3 (eN tupN [(eC (.str ("when" : Str))), (eN tupN [(eC (.str ("unlike" : Str))), (eN tupN [(eC (.str ("atom" : Str))), (eC (.int 1))]), (eN tupN [(eC (.str ("atom" : Str))), (eC (.int 2))])]), (eVar 3)])) sNil)
  (sIf (tB (e2 eqW (eVar 5) (eC (.int 2)))) (sSet 3 (eN tupN [(eC (.str ("last" : Str))), (eC (.str ("v" : Str))), (eN tupN [(eC (.str ("atom" : Str))), (eC (.int 3))]), (eVar 3)])) sNil)))) [some (.scr ns), some (.ref 0), some (.int m), some (wO op0), x4, x5] (p1.st T)).seq (sRet (eVar 3))) = .ok (wO op) (p'.st T) ∧ Deep m op := fun x4 x5 => by
    have hm1 : (m : Int) - 1 = ((m - 1 : Nat) : Int) := by omega
    refine sFor_inv (J := itR 0 (m - 1)) (P := fun q => ∃ (op : Op) (p' : Pl), RS.fin (p.st T) (q.seq (sRet (eVar 3))) = .ok (wO op) (p'.st T) ∧ Deep m op) (InvD ns m T) (m - 1) (by have := fuel_ge; omega) (iRange1_ok (by simp [hm1]) (by omega)) ⟨Nat.zero_le _, op0, p1, x4, x5, rfl, rfl, hd0⟩ (fun i e S h => h.1) ?_
    rintro i e S' ⟨hi, op, p', x4, x5, rfl, rfl, hD⟩
    by_cases hil : i < m - 1
    · refine .inr ⟨.int i, _, _, by simp [itR, hil], rfl, ?_⟩
      obtain ⟨q, p2, u1, u2⟩ := take_eq (n := n) (p := p') hT (ns := ns) (k := 3) (by decide) (by decide)
      have hq : q = 0 ∨ q = 1 ∨ q = 2 := by omega
      rcases hq with rfl | rfl | rfl
      · simp at u1
        simp [u1]
        refine show InvD ns m T _ _ _ from ⟨hil, .alt false op (.non false), p2, some (.int i), some (.int 0), rfl, ?_, ?_⟩
        · simp [wO]
        · have := hD.dp
          have := hD.pt
          have := hD.mbs
          have := dep_pos op
          refine ⟨by simp [okO, hD.ok], by simp [dep]; omega, by simp [parts]; omega, by simp [mxN, hD.mx], by simp [rowsL, hD.rows], fun v hv => hD.kept v (by simpa [keptL] using hv), by simp [mb]; omega⟩
      · simp at u1
        simp [u1]
        refine show InvD ns m T _ _ _ from ⟨hil, .cond false false false (.atom false (.int 1)) (.atom false (.int 2)) op, p2, some (.int i), some (.int 1), rfl, ?_, ?_⟩
        · simp [wO, wI, tw]
        · have := hD.dp
          have := hD.pt
          have := hD.mbs
          refine ⟨by simp [okO, okI, atB, hD.ok], by simp [dep]; omega, by simp [parts]; omega, by simp [mxN, hD.mx], by simp [rowsL, hD.rows], fun v hv => hD.kept v (by simpa [keptL] using hv), by simp [mb]; omega⟩
      · simp at u1
        simp [u1]
        refine show InvD ns m T _ _ _ from ⟨hil, .last false "v" (.atom false (.int 3)) op, p2, some (.int i), some (.int 2), rfl, ?_, ?_⟩
        · simp [wO, wI]
        · have := hD.dp
          have := hD.pt
          have := hD.mbs
          refine ⟨?_, by simp [dep]; omega, by simp [parts]; omega, by simp [mxN, hD.mx], by simp [rowsL, hD.rows], fun v hv => ?_, by simp [mb]; omega⟩
          · have : nmB "v" = true := by decide +kernel
            simp only [okO, this, okI, atB, hD.ok, Bool.and_self]
          · simp only [keptL, List.mem_cons] at hv
            rcases hv with rfl | hv
            · rfl
            · exact hD.kept v hv
    · have hie : i + 1 = m := by omega
      refine .inl ⟨by simp [itR, hil], op, p', ?_, hie ▸ hD⟩
      simp
      exact cut_st0 hT (da_low (frz_O hD.ok).2.1)
  obtain ⟨op, p', l1, l2⟩ := loop none none
  refine ⟨op, p', ?_, l2⟩
  have hw0 : getW gdT (.lst [.tup [.str "none"], .tup [.str "give", .tup [.tup [.str "atom", .int 1]]]]) (.int r) (p1.st T) = some (wO op0, p1.st T) := by
    rcases hr with rfl | rfl <;> rfl
  have ht : ∀ k : Nat, (2 : Nat) = k → True := fun _ _ => trivial
  rw [F__law_deep]
  simp only [b__law_deep, run3, startE_cons, startE0, List.replicate, sSeq_ap, sSet_ap, e2_ap, eN_ap, evs_cons, evs_nil, eC_ap, R.bind_ok, tupN_ap, lstN_ap, List.length_cons, List.length_nil, szl, eCall_ap, eVar_ap, List.getElem?_cons_zero, List.getElem?_cons_succ, Nat.zero_add, Nat.reduceAdd, Nat.reduceLeDiff, if_true, lift_some, mkL_f, R.thn_ok, RS.seq_nx, List.set_cons_zero, List.set_cons_succ]
  rw [show F (n + 1) Fn.f__law_take [W.scr ns, W.ref 0, W.int 2] (p.st T) = R.ok (.int r) (p1.st T) from t1]
  simp only [R.bind_ok, hw0, lift_some, R.thn_ok, RS.seq_nx, List.set_cons_zero, List.set_cons_succ]
  exact l1
end Sh

set_option Elab.async false
set_option linter.all false
set_option maxRecDepth 100000
set_option maxHeartbeats 4000000
namespace Sh
open PySem L2
variable {n : Nat} {S : Store}
def lettersN : List Str := ["u", "v", "w", "x"]
def lettersK : List Str := ["e", "f", "g", "h"]
def rowsN : List Str := ["r", "s", "t", "p"]
def nmO (m : Nat) : Nat → Op
  | 0 => .give false false ((lettersN.take (min m 3)).map (It.name false))
  | i + 1 => .each false (lettersN.getD (m - 1 - i) "") (rowsN.getD (i % 3) "") (nmO m i)
def rwO : Nat → Op
  | 0 => .non false
  | i + 1 => .alt false (.each false "x" (rowsN.getD i "") (.give false false [.name false "x"])) (rwO i)
def kpO : Nat → Op
  | 0 => .give false false []
  | i + 1 => .last false (lettersK.getD i "") (.atom false (.int 1)) (kpO i)
theorem nm_da : ∀ m, m < 5 → ∀ i, i < 5 → daW (wO (nmO m i)) = true := by decide +kernel
theorem rw_da : ∀ i, i < 5 → daW (wO (rwO i)) = true := by decide +kernel
theorem kp_da : ∀ i, i < 5 → daW (wO (kpO i)) = true := by decide +kernel
theorem cutL_take {ps : List W} {i : Nat} : cutL ps none (some (i : Int)) = ps.take i := by
  unfold cutL
  rw [HT.sIx_none, HT.sIx_nat, List.drop_zero, Nat.sub_zero]
  by_cases h : i ≤ ps.length
  · rw [Nat.min_eq_left h]
  · rw [Nat.min_eq_right (by omega), List.take_length, List.take_of_length_le (by omega)]
def InvN (m : Nat) (S : Store) (i : Nat) (e : En) (S' : Store) : Prop := i ≤ m ∧ S' = S ∧ ∃ (x4 x5 : Option W), e = [some (.int m), some (.int 3), some (.lst (lettersN.map W.str)), some (wO (nmO m i)), x4, x5]
theorem named_eq (hS : Clo S) {m : Nat} (hm : m = 3 ∨ m = 4) : F (n + 1) .f__law_named [.int m, .int 3] S = .ok (wO (nmO m m)) S := by
  have hmin : minN [.int m, .int 3] S = some (.int 3, S) := by rcases hm with rfl | rfl <;> rfl
  have hlc : eLc false (iE (eCut false (eVar 2) none (some (eN minN [(eVar 0), (eC (.int 3))])))) [5] (gVar 5) tYesM (eN tupN [(eC (.str ("name" : Str))), (eVar 5)]) [some (.int m), some (.int 3), some (.lst (lettersN.map W.str)), none, none, none] S = .ok (.lst (((lettersN.take 3).map W.str).map fun w => .tup [.str "name", w])) S :=
    lc_map (m := false) (f := fun w => .tup [.str "name", w]) (iE_ok (w := .lst ((lettersN.take 3).map W.str)) (by
      have : cutL (lettersN.map W.str) none (some 3) = (lettersN.take 3).map W.str := by
        rw [show (3 : Int) = ((3 : Nat) : Int) from rfl, cutL_take, List.map_take]
      simp only [eCut_ap, eVar_ap, List.getElem?_cons_zero, List.getElem?_cons_succ, R.bind_ok, evO_none, evO_some, eN_ap, evs_cons, evs_nil, eC_ap, hmin, lift_some, cut_lstv, this, mkL_f]) rfl) (by decide) (fun w hw => rfl)
  have h0 : W.tup [.str "give", .tup (((lettersN.take 3).map W.str).map fun w => .tup [.str "name", w])] = wO (nmO m 0) := by rcases hm with rfl | rfl <;> rfl
  rw [F__law_named]
  simp only [b__law_named, run2, startE_cons, startE0, List.replicate, sSeq_ap, sSet_ap, eN_ap, evs_cons, evs_nil, eC_ap, R.bind_ok, lstN_ap, List.length_cons, List.length_nil, szl, Nat.zero_add, Nat.reduceAdd, Nat.reduceLeDiff, if_true, lift_some, mkL_f, R.thn_ok, RS.seq_nx, List.set_cons_zero, List.set_cons_succ]
  have el : W.lst [.str "u", .str "v", .str "w", .str "x"] = .lst (lettersN.map W.str) := rfl
  simp only [el, hlc, R.bind_ok, tuple_lst, lift_some, tupN_ap, List.length_cons, List.length_nil, szl, Nat.zero_add, Nat.reduceAdd, Nat.reduceLeDiff, if_true, R.thn_ok, RS.seq_nx, List.set_cons_zero, List.set_cons_succ, h0]
  refine fin_inv (J := itR 0 m) (InvN m S) m (by have := fuel_ge; omega) (iRange1_ok rfl (by omega)) ⟨Nat.zero_le _, rfl, none, none, rfl⟩ (fun i e S h => h.1) ?_
  rintro i e S' ⟨hi, rfl, x4, x5, rfl⟩
  by_cases hil : i < m
  · refine .inr ⟨.int i, _, _, by simp [itR, hil], rfl, ?_⟩
    have g1 : getW gdT (.lst (lettersN.map W.str)) (.int ((m : Int) - 1 - (i : Int))) S' = some (.str (lettersN.getD (m - 1 - i) ""), S') := by
      have : (m : Int) - 1 - (i : Int) = ((m - 1 - i : Nat) : Int) := by omega
      rw [this, get_lst, atI_n, List.getElem?_map]
      have hl : m - 1 - i < lettersN.length := by show m - 1 - i < 4; omega
      rw [List.getElem?_eq_getElem hl, List.getD_eq_getElem?_getD, List.getElem?_eq_getElem hl]; rfl
    have g2 : getW gdT (.lst (rowsN.map W.str)) (.int ((i : Int) % 3)) S' = some (.str (rowsN.getD (i % 3) ""), S') := by
      have : (i : Int) % 3 = ((i % 3 : Nat) : Int) := by omega
      rw [this, get_lst, atI_n, List.getElem?_map]
      have hl : i % 3 < rowsN.length := by show i % 3 < 4; omega
      rw [List.getElem?_eq_getElem hl, List.getD_eq_getElem?_getD, List.getElem?_eq_getElem hl]; rfl
    have er : W.lst [.str "r", .str "s", .str "t", .str "p"] = .lst (rowsN.map W.str) := rfl
    have h3 : (0 : Int) < 3 := by decide
    simp only [sSet_ap, eN_ap, evs_cons, evs_nil, eC_ap, e2_ap, eVar_ap, List.set_cons_zero, List.set_cons_succ, List.getElem?_cons_zero, List.getElem?_cons_succ, R.bind_ok, sub_int, lift_some, g1, lstN_ap, List.length_cons, List.length_nil, szl, Nat.zero_add, Nat.reduceAdd, Nat.reduceLeDiff, if_true, mkL_f, er, int_int, mod_int, h3, Int.zero_add, g2, tupN_ap, R.thn_ok]
    exact ⟨hil, rfl, some (.int i), x5, rfl⟩
  · have hie : i = m := by omega
    subst hie
    refine .inl ⟨by simp [itR], ?_⟩
    simp only [sRet_ap, eVar_ap, List.getElem?_cons_succ, List.getElem?_cons_zero, R.thn_ok, fin_ret]
    exact cut_self hS (da_low (nm_da i (by omega) i (by omega)))
def InvW (m : Nat) (S : Store) (i : Nat) (e : En) (S' : Store) : Prop := i ≤ m ∧ S' = S ∧ ∃ (x2 : Option W), e = [some (.int m), some (wO (rwO i)), x2]
theorem rowed_eq (hS : Clo S) {m : Nat} (hm : m ≤ 4) : F (n + 1) .f__law_rowed [.int m] S = .ok (wO (rwO m)) S := by
  rw [F__law_rowed]
  simp only [b__law_rowed, run1, startE_cons, startE0, List.replicate, sSeq_ap, sSet_ap, eN_ap, evs_cons, evs_nil, eC_ap, R.bind_ok, tupN_ap, List.length_cons, List.length_nil, szl, Nat.zero_add, Nat.reduceAdd, Nat.reduceLeDiff, if_true, lift_some, mkL_f, R.thn_ok, RS.seq_nx, List.set_cons_zero, List.set_cons_succ]
  refine fin_inv (J := itR 0 m) (InvW m S) m (by have := fuel_ge; omega) (iRange1_ok rfl (by omega)) ⟨Nat.zero_le _, rfl, none, rfl⟩ (fun i e S h => h.1) ?_
  rintro i e S' ⟨hi, rfl, x2, rfl⟩
  by_cases hil : i < m
  · refine .inr ⟨.int i, _, _, by simp [itR, hil], rfl, ?_⟩
    have g2 : getW gdT (.lst (rowsN.map W.str)) (.int (i : Int)) S' = some (.str (rowsN.getD i ""), S') := by
      rw [get_lst, atI_n, List.getElem?_map]
      have hl : i < rowsN.length := by show i < 4; omega
      rw [List.getElem?_eq_getElem hl, List.getD_eq_getElem?_getD, List.getElem?_eq_getElem hl]; rfl
    have er : W.lst [.str "r", .str "s", .str "t", .str "p"] = .lst (rowsN.map W.str) := rfl
    simp only [sSet_ap, eN_ap, evs_cons, evs_nil, eC_ap, e2_ap, eVar_ap, List.set_cons_zero, List.set_cons_succ, List.getElem?_cons_zero, List.getElem?_cons_succ, R.bind_ok, lift_some, lstN_ap, List.length_cons, List.length_nil, szl, Nat.zero_add, Nat.reduceAdd, Nat.reduceLeDiff, if_true, mkL_f, er, Int.zero_add, g2, tupN_ap, R.thn_ok]
    exact ⟨hil, rfl, some (.int i), rfl⟩
  · have hie : i = m := by omega
    subst hie
    refine .inl ⟨by simp [itR], ?_⟩
    simp only [sRet_ap, eVar_ap, List.getElem?_cons_succ, List.getElem?_cons_zero, R.thn_ok, fin_ret]
    exact cut_self hS (da_low (rw_da i (by omega)))
def InvK (m : Nat) (S : Store) (i : Nat) (e : En) (S' : Store) : Prop := i ≤ m ∧ S' = S ∧ ∃ (x2 : Option W), e = [some (.int m), some (wO (kpO i)), x2]
theorem kept_eq (hS : Clo S) {m : Nat} (hm : m ≤ 4) : F (n + 1) .f__law_kept [.int m] S = .ok (wO (kpO m)) S := by
  rw [F__law_kept]
  simp only [b__law_kept, run1, startE_cons, startE0, List.replicate, sSeq_ap, sSet_ap, eN_ap, evs_cons, evs_nil, eC_ap, R.bind_ok, tupN_ap, List.length_cons, List.length_nil, szl, Nat.zero_add, Nat.reduceAdd, Nat.reduceLeDiff, Nat.zero_le, if_true, lift_some, mkL_f, R.thn_ok, RS.seq_nx, List.set_cons_zero, List.set_cons_succ]
  refine fin_inv (J := itR 0 m) (InvK m S) m (by have := fuel_ge; omega) (iRange1_ok rfl (by omega)) ⟨Nat.zero_le _, rfl, none, rfl⟩ (fun i e S h => h.1) ?_
  rintro i e S' ⟨hi, rfl, x2, rfl⟩
  by_cases hil : i < m
  · refine .inr ⟨.int i, _, _, by simp [itR, hil], rfl, ?_⟩
    have g2 : getW gdT (.lst (lettersK.map W.str)) (.int (i : Int)) S' = some (.str (lettersK.getD i ""), S') := by
      rw [get_lst, atI_n, List.getElem?_map]
      have hl : i < lettersK.length := by show i < 4; omega
      rw [List.getElem?_eq_getElem hl, List.getD_eq_getElem?_getD, List.getElem?_eq_getElem hl]; rfl
    have er : W.lst [.str "e", .str "f", .str "g", .str "h"] = .lst (lettersK.map W.str) := rfl
    simp only [sSet_ap, eN_ap, evs_cons, evs_nil, eC_ap, e2_ap, eVar_ap, List.set_cons_zero, List.set_cons_succ, List.getElem?_cons_zero, List.getElem?_cons_succ, R.bind_ok, lift_some, lstN_ap, List.length_cons, List.length_nil, szl, Nat.zero_add, Nat.reduceAdd, Nat.reduceLeDiff, if_true, mkL_f, er, Int.zero_add, g2, tupN_ap, R.thn_ok]
    exact ⟨hil, rfl, some (.int i), rfl⟩
  · have hie : i = m := by omega
    subst hie
    refine .inl ⟨by simp [itR], ?_⟩
    simp only [sRet_ap, eVar_ap, List.getElem?_cons_succ, List.getElem?_cons_zero, R.thn_ok, fin_ret]
    exact cut_self hS (da_low (kp_da i (by omega)))
end Sh

set_option Elab.async false
set_option linter.all false
set_option maxRecDepth 100000
set_option maxHeartbeats 4000000
namespace Sh
open PySem L2
variable {n : Nat} {S : Store}
structure Good (r : Bool) (op : Op) : Prop where
  ok : okO [] op = true
  dp : dep op ≤ 14
  pt : parts op ≤ 200
  bn : bnd op = r
  rw_ : ∀ x ∈ rowsL op, x ∈ rowsB
  mbs : mb op ≤ 100000
theorem told_good (hS : Clo S) {r : Bool} {op : Op} (h : Good r op) (hn : 44 ≤ n) : F n .f__law_told [wO op, .bl r] S = .ok (.bl true) S := by
  cases r with
  | true => exact told_ok hS ⟨h.ok, h.bn⟩ h.rw_ (by have := h.mbs; omega) (by omega)
  | false => exact told_no hS h.ok (by have := h.pt; omega) h.dp h.bn hn
def goodB (r : Bool) (op : Op) : Bool := okO [] op && (decide (dep op ≤ 14) && (decide (parts op ≤ 200) && (decide (bnd op = r) && ((rowsL op).all (fun x => decide (x ∈ rowsB)) && decide (mb op ≤ 100000)))))
theorem good_of {r : Bool} {op : Op} (h : goodB r op = true) : Good r op := by
  simp only [goodB, Bool.and_eq_true, decide_eq_true_eq, List.all_eq_true] at h
  obtain ⟨a, b, c, d, e, f⟩ := h
  exact ⟨a, b, c, d, e, f⟩
def many3 (i : Nat) : List Op := [nmO (3 + i) (3 + i), rwO (3 + i), kpO (3 + i)]
theorem many_good : ∀ i, i < 2 → ∀ op ∈ many3 i, goodB (decide (i = 0)) op = true ∧ goodB (decide (i = 0)) (.alt false (.give false false []) op) = true := by decide +kernel
theorem even_good {m : Nat} {op : Op} (h : Plain op) (hd : dep op ≤ 8) (hp : parts op = m) (hk : keptL op = []) (hm : m ≤ 100) : Good (decide (m ≤ 40)) op := by
  refine ⟨h.ok, by omega, by omega, ?_, by rw [h.rows]; simp, by have := h.mbs; omega⟩
  unfold bnd
  rw [h.mx, h.rows, hk, hp]
  have : dep op ≤ 12 := by omega
  simp [this, dedS]
theorem deep_good {m : Nat} {op : Op} (h : Deep m op) (hm : m ≤ 13) : Good (decide (m ≤ 12)) op := by
  have h1 := h.dp
  have h2 := h.pt
  refine ⟨h.ok, by omega, by omega, ?_, by rw [h.rows]; simp, by have := h.mbs; omega⟩
  unfold bnd
  have hk := ded_const h.kept
  rw [h.mx, h.rows, h1]
  have e1 : parts op ≤ 40 := by omega
  have e2 : (dedS (keptL op)).length ≤ 3 := by omega
  simp [e1, e2, dedS]
  intro _
  exact decide_eq_true e2
/-! ### the wrong one -/
def xGive : Op := .give false false [.name false "x"]
def wrongO (op : Op) : Op := .alt false op xGive
theorem xgive_fault (hS : Clo S) (hn : 8 ≤ n) : F n .f_part_fault [wO xGive, .tup []] S = .ok (.tup [.int 1, .int 0]) S := by
  obtain ⟨n, rfl⟩ : ∃ m, n = m + 8 := ⟨n - 8, by omega⟩
  have h1 := is_row_mk (n := n + 6) hS (f := false) (xs := [.str "give", mkR false ([It.name false "x"].map wI)])
  have h2 := items_fault_eq (n := n + 3) hS (f := false) (is := [.name false "x"]) (g := []) (by decide) (fun i hi => by rw [List.mem_singleton.mp hi]; decide +kernel)
  have hx : List.findIdx? (fun i => !okI [] i) [It.name false "x"] = some 0 := by decide +kernel
  rw [hx] at h2
  have h3 := behind_tup (n := n + 6) hS (k := 1) (xs := [.int 0]) (by decide) rfl
  simp only [fltW, List.map_nil] at h2
  simp at h1 h2
  rw [F_part_fault]
  simp [b_part_fault, xGive, wO, h1, notIn_LEN, get_LEN, h2, h3]
  exact cut_tupS hS rfl
theorem wrong_part (hS : Clo S) {op : Op} (h : okO [] op = true) (hd : dep op ≤ 14) (hn : 36 ≤ n) : F n .f_part_fault [wO (wrongO op), .tup []] S = .ok (.tup [.int 2, .int 1, .int 0]) S := by
  obtain ⟨n, rfl⟩ : ∃ m, n = m + 8 := ⟨n - 8, by omega⟩
  have ha := part_fault_eq hS op [] (n + 7) h (by simp; omega) (by omega)
  have hb := xgive_fault (n := n + 7) hS (by omega)
  simp only [List.map_nil] at ha
  have h1 := is_row_mk (n := n + 6) hS (f := false) (xs := [.str "choice", wO op, wO xGive])
  have h3 := behind_tup (n := n + 6) hS (k := 2) (xs := [.int 1, .int 0]) (by decide) rfl
  simp at h1
  rw [F_part_fault]
  simp [b_part_fault, wrongO, wO, h1, notIn_LEN, get_LEN, ha, behind_non (n := n + 6) hS, isNon]
  have hx : wO xGive = .tup [.str "give", .tup [.tup [.str "name", .str "x"]]] := rfl
  rw [hb]
  simp [h3]
  exact cut_tupS hS rfl
theorem wrong_fault (hS : Clo S) {op : Op} (h : okO [] op = true) (hd : dep op ≤ 14) (hn : 37 ≤ n) : F n .f_open_fault [wO (wrongO op)] S = .ok (.tup [.int 2, .int 1, .int 0]) S := by
  obtain ⟨n, rfl⟩ : ∃ m, n = m + 1 := ⟨n - 1, by omega⟩
  have h1 := wrong_part (n := n) hS h hd (by omega)
  rw [F_open_fault]
  simp [b_open_fault, h1, isNon]
  exact cut_tupS hS rfl
theorem wrong_open (hS : Clo S) {op : Op} (h : okO [] op = true) (hd : dep op ≤ 14) (hn : 38 ≤ n) : F n .f_is_open [wO (wrongO op)] S = .ok (.bl false) S := by
  obtain ⟨n, rfl⟩ : ∃ m, n = m + 1 := ⟨n - 1, by omega⟩
  exact is_open_of hS (wrong_fault (n := n) hS h hd (by omega))
theorem wrong_refused (hS : Clo S) {op : Op} (h : okO [] op = true) (hd : dep op ≤ 14) (hn : 41 ≤ n) : F n .f__law_refused [wO (wrongO op)] S = .ok (.tup [.int 2, .int 1, .int 0]) S := by
  obtain ⟨n, rfl⟩ : ∃ m, n = m + 4 := ⟨n - 4, by omega⟩
  exact refused_no hS (wrong_fault (n := n) hS h hd (by omega)) rfl rfl
/-! ### what is told of the right ones -/
theorem rows_nm : srtS (dedS (rowsL (nmO 3 3))) = (["r", "s", "t"] : List Str) := (srtS_eq (ys := (["r", "s", "t"] : List Str)) (by decide +kernel) (by decide +kernel)).symm
theorem rows_rw : srtS (dedS (rowsL (rwO 3))) = (["r", "s", "t"] : List Str) := (srtS_eq (ys := (["r", "s", "t"] : List Str)) (by decide +kernel) (by decide +kernel)).symm
theorem kept_kp : srtS (dedS (keptL (kpO 3))) = (["e", "f", "g"] : List Str) := (srtS_eq (ys := (["e", "f", "g"] : List Str)) (by decide +kernel) (by decide +kernel)).symm
theorem neD_nil : neDW (.lst []) (.lst []) S = some (.bl false, S) := by kernel_rfl
theorem neD_told : neDW (.lst [.int 3, .lst [.str "r", .str "s", .str "t"], .lst [.str "r", .str "s", .str "t"], .lst [.str "e", .str "f", .str "g"]]) (.lst [.int 3, .lst [.str "r", .str "s", .str "t"], .lst [.str "r", .str "s", .str "t"], .lst [.str "e", .str "f", .str "g"]]) S = some (.bl false, S) := by kernel_rfl
end Sh

set_option Elab.async false
set_option linter.all false
set_option maxRecDepth 100000
set_option maxHeartbeats 4000000
namespace Sh
open PySem L2
noncomputable def lw0 (C : Fn → Cal) : SM := (sSet 3 (e2 eqW (eVar 2) (eC (.int 0))))
noncomputable def lw1 (C : Fn → Cal) : SM := (sSet 4 (eN (lstN false) [(eCall (C .f__law_even) [(eVar 0), (eVar 1), (e2 (addW false) (eC (.int 40)) (eVar 2))]), (eCall (C .f__law_deep) [(eVar 0), (eVar 1), (e2 (addW false) (eC (.int 12)) (eVar 2))]), (eCall (C .f__law_named) [(e2 (addW false) (eC (.int 3)) (eVar 2)), (eC (.int 3))])]))
noncomputable def lw2 (C : Fn → Cal) : SM := (sSet 4 (e2 (addW false) (eVar 4) (eN (lstN false) [(eCall (C .f__law_rowed) [(e2 (addW false) (eC (.int 3)) (eVar 2))]), (eCall (C .f__law_kept) [(e2 (addW false) (eC (.int 3)) (eVar 2))])])))
noncomputable def lw3 (C : Fn → Cal) : SM := (sIf (tB (e2 neDW (eLc false (iE (eVar 4)) [5] (gVar 5) (tNot (tE (eCall (C .f__law_told) [(eVar 5), (eVar 3)]))) (eVar 5)) (eN (lstN false) []))) (sRet (eC (.bl false))) sNil)
noncomputable def lw4 (C : Fn → Cal) : SM := (sSet 5 (e2 (getW gdT) (eVar 4) (e2 (addW false) (eC (.int 2)) (eCall (C .f__law_take) [(eVar 0), (eVar 1), (eC (.int 3))]))))
noncomputable def lw5 (C : Fn → Cal) : SM := (sIf (tNot (tE (eCall (C .f__law_told) [(eN tupN [(eC (.str ("choice" : Str))), (eN tupN [(eC (.str ("give" : Str))), (eN tupN [])]), (eVar 5)]), (eVar 3)]))) (sRet (eC (.bl false))) sNil)
noncomputable def lw6 (C : Fn → Cal) : SM := (sSet 6 (eN tupN [(eC (.str ("choice" : Str))), (eVar 5), (eN tupN [(eC (.str ("give" : Str))), (eN tupN [(eN tupN [(eC (.str ("name" : Str))), (eC (.str ("x" : Str)))])])])]))
noncomputable def lw7 (C : Fn → Cal) : SM := (sIf (tOr (tB (e2 neDW (eCall (C .f_open_fault) [(eVar 6)]) (eN tupN [(eC (.int 2)), (eC (.int 1)), (eC (.int 0))]))) (tOr (tB (e2 notBW (eCall (C .f_is_open) [(eVar 6)]) (eC (.bl false)))) (tB (e2 neDW (eCall (C .f__law_refused) [(eVar 6)]) (eN tupN [(eC (.int 2)), (eC (.int 1)), (eC (.int 0))]))))) (sRet (eC (.bl false))) sNil)
noncomputable def lw8 (C : Fn → Cal) : SM := (sIf (tNot (tE (eVar 3))) sCnt sNil)
noncomputable def lw9 (C : Fn → Cal) : SM := (sIf (tB (e2 neW (eCall (C .f_ways) [(e2 (getW gdT) (eVar 4) (eC (.int 0)))]) (eC (.int 20)))) (sRet (eC (.bl false))) sNil)
noncomputable def lw10 (C : Fn → Cal) : SM := (sSet 7 (eN (lstN false) [(eCall (C .f_most_names) [(e2 (getW gdT) (eVar 4) (eC (.int 2)))]), (eCall (C .f_row_names) [(e2 (getW gdT) (eVar 4) (eC (.int 2)))]), (eCall (C .f_row_names) [(e2 (getW gdT) (eVar 4) (eC (.int 3)))]), (eCall (C .f_variables) [(e2 (getW gdT) (eVar 4) (eC (.int 4)))])]))
noncomputable def lw11 (C : Fn → Cal) : SM := (sIf (tB (e2 neDW (eVar 7) (eN (lstN false) [(eC (.int 3)), (eN (lstN false) [(eC (.str ("r" : Str))), (eC (.str ("s" : Str))), (eC (.str ("t" : Str)))]), (eN (lstN false) [(eC (.str ("r" : Str))), (eC (.str ("s" : Str))), (eC (.str ("t" : Str)))]), (eN (lstN false) [(eC (.str ("e" : Str))), (eC (.str ("f" : Str))), (eC (.str ("g" : Str)))])]))) (sRet (eC (.bl false))) sNil)
noncomputable def lwB (C : Fn → Cal) : SM := sSeq (lw0 C) (sSeq (lw1 C) (sSeq (lw2 C) (sSeq (lw3 C) (sSeq (lw4 C) (sSeq (lw5 C) (sSeq (lw6 C) (sSeq (lw7 C) (sSeq (lw8 C) (sSeq (lw9 C) (sSeq (lw10 C) (lw11 C)))))))))))
noncomputable def lwE (C : Fn → Cal) : SM := sSeq (sSet 5 (eCall (C .f__law_even) [(eVar 0), (eVar 1), (e2 (addW false) (eC (.int 1)) (eCall (C .f__law_take) [(eVar 0), (eVar 1), (eC (.int 40))]))])) (sRet (eCall (C .f__law_told) [(eVar 5), (eC (.bl true))]))
theorem b_law_eq (C : Fn → Cal) : b_law C = sSeq (sSet 1 (eN (lstN true) [(eC (.int 0)), (eC (.int 0)), (eC (.int 0)), (eC (.int 0))])) (sSeq (sFor (iRange1 (eC (.int 2))) (gVar 2) (lwB C)) (lwE C)) := rfl
variable {p : Pl}
abbrev st0 (p : Pl) : Store := p.st []
theorem body_eq {ns : List Int} {i : Nat} (hi : i < 2) (x3 x4 x5 x6 x7 : Option W) : ∃ (p' : Pl) (y3 y4 y5 y6 y7 : Option W), lwB (F 60) [some (.scr ns), some (.ref 0), some (.int i), x3, x4, x5, x6, x7] (st0 p) =
    (if i = 0 then .nx [some (.scr ns), some (.ref 0), some (.int i), y3, y4, y5, y6, y7] (st0 p') else .cnt [some (.scr ns), some (.ref 0), some (.int i), y3, y4, y5, y6, y7] (st0 p')) := by
  have c40 : (40 : Int) + (i : Int) = ((40 + i : Nat) : Int) := by omega
  have c12 : (12 : Int) + (i : Int) = ((12 + i : Nat) : Int) := by omega
  have c3 : (3 : Int) + (i : Int) = ((3 + i : Nat) : Int) := by omega
  obtain ⟨op1, p1, a1, g1, d1, t1, w1, k1⟩ := even_eq (n := 58) (p := p) okT_nil (ns := ns) (m := 40 + i) (by omega) (by omega)
  obtain ⟨op2, p2, a2, g2⟩ := deep_eq (n := 58) (p := p1) okT_nil (ns := ns) (m := 12 + i) (by omega) (by omega)
  have hc2 : Clo (st0 p2) := clo_st okT_nil
  have a3 := named_eq (n := 59) hc2 (m := 3 + i) (by omega)
  have a4 := rowed_eq (n := 59) hc2 (m := 3 + i) (by omega)
  have a5 := kept_eq (n := 59) hc2 (m := 3 + i) (by omega)
  obtain ⟨r, p3, a6, r6⟩ := take_eq (n := 59) (p := p2) okT_nil (ns := ns) (k := 3) (by decide) (by decide)
  have hc3 : Clo (st0 p3) := clo_st okT_nil
  have G1 : Good (decide (i = 0)) op1 := by
    have := even_good g1 d1 t1 k1 (by omega)
    have e : decide (40 + i ≤ 40) = decide (i = 0) := decide_eq_decide.mpr (by omega)
    rwa [e] at this
  have G2 : Good (decide (i = 0)) op2 := by
    have := deep_good g2 (by omega)
    have e : decide (12 + i ≤ 12) = decide (i = 0) := decide_eq_decide.mpr (by omega)
    rwa [e] at this
  have M := many_good i hi
  have G3 := good_of (M (nmO (3 + i) (3 + i)) (by simp [many3])).1
  have G4 := good_of (M (rwO (3 + i)) (by simp [many3])).1
  have G5 := good_of (M (kpO (3 + i)) (by simp [many3])).1
  have b1 : F 60 .f__law_even [.scr ns, .ref 0, .int ((40 + i : Nat) : Int)] (st0 p) = .ok (wO op1) (st0 p1) := a1
  have b2 : F 60 .f__law_deep [.scr ns, .ref 0, .int ((12 + i : Nat) : Int)] (st0 p1) = .ok (wO op2) (st0 p2) := a2
  have b3 : F 60 .f__law_named [.int ((3 + i : Nat) : Int), .int 3] (st0 p2) = .ok (wO (nmO (3 + i) (3 + i))) (st0 p2) := a3
  have b4 : F 60 .f__law_rowed [.int ((3 + i : Nat) : Int)] (st0 p2) = .ok (wO (rwO (3 + i))) (st0 p2) := a4
  have b5 : F 60 .f__law_kept [.int ((3 + i : Nat) : Int)] (st0 p2) = .ok (wO (kpO (3 + i))) (st0 p2) := a5
  have b6 : F 60 .f__law_take [.scr ns, .ref 0, .int 3] (st0 p2) = .ok (.int r) (st0 p3) := a6
  let made : List W := [wO op1, wO op2, wO (nmO (3 + i) (3 + i)), wO (rwO (3 + i)), wO (kpO (3 + i))]
  have z0 : lw0 (F 60) [some (.scr ns), some (.ref 0), some (.int i), x3, x4, x5, x6, x7] (st0 p) = .nx [some (.scr ns), some (.ref 0), some (.int i), some (.bl (decide (i = 0))), x4, x5, x6, x7] (st0 p) := by
    have e : decide ((i : Int) = 0) = decide (i = 0) := decide_eq_decide.mpr (by omega)
    simp only [lw0, sSet_ap, e2_ap, eVar_ap, eC_ap, List.getElem?_cons_zero, List.getElem?_cons_succ, R.bind_ok, eq_int, lift_some, R.thn_ok, List.set_cons_zero, List.set_cons_succ, e]
  have z1 : lw1 (F 60) [some (.scr ns), some (.ref 0), some (.int i), some (.bl (decide (i = 0))), x4, x5, x6, x7] (st0 p) = .nx [some (.scr ns), some (.ref 0), some (.int i), some (.bl (decide (i = 0))), some (.lst [wO op1, wO op2, wO (nmO (3 + i) (3 + i))]), x5, x6, x7] (st0 p2) := by
    simp only [lw1, sSet_ap, eN_ap, evs_cons, evs_nil, eCall_ap, e2_ap, eVar_ap, eC_ap, List.getElem?_cons_zero, List.getElem?_cons_succ, R.bind_ok, add_int, lift_some, c40, b1, c12, b2, c3, b3, lstN_ap, List.length_cons, List.length_nil, szl, Nat.zero_add, Nat.reduceAdd, Nat.reduceLeDiff, if_true, mkL_f, R.thn_ok, List.set_cons_zero, List.set_cons_succ]
  have z2 : lw2 (F 60) [some (.scr ns), some (.ref 0), some (.int i), some (.bl (decide (i = 0))), some (.lst [wO op1, wO op2, wO (nmO (3 + i) (3 + i))]), x5, x6, x7] (st0 p2) = .nx [some (.scr ns), some (.ref 0), some (.int i), some (.bl (decide (i = 0))), some (.lst made), x5, x6, x7] (st0 p2) := by
    simp only [lw2, sSet_ap, eN_ap, evs_cons, evs_nil, eCall_ap, e2_ap, eVar_ap, eC_ap, List.getElem?_cons_zero, List.getElem?_cons_succ, R.bind_ok, add_int, lift_some, c3, b4, b5, lstN_ap, List.length_cons, List.length_nil, szl, Nat.zero_add, Nat.reduceAdd, Nat.reduceLeDiff, if_true, mkL_f, R.thn_ok, List.set_cons_zero, List.set_cons_succ, add_lst, List.cons_append, List.nil_append]
    rfl
  have hz3 : eLc false (iE (eVar 4)) [5] (gVar 5) (tNot (tE (eCall (F 60 .f__law_told) [(eVar 5), (eVar 3)]))) (eVar 5) [some (.scr ns), some (.ref 0), some (.int i), some (.bl (decide (i = 0))), some (.lst made), x5, x6, x7] (st0 p2) = .ok (.lst []) (st0 p2) := by
    have := lc_filter (m := false) (S := st0 p2) (it := iE (eVar 4)) (own := [5]) (v := 5) (t := tNot (tE (eCall (F 60 .f__law_told) [(eVar 5), (eVar 3)]))) (a := eVar 5) (e := [some (.scr ns), some (.ref 0), some (.int i), some (.bl (decide (i = 0))), some (.lst made), x5, x6, x7]) (ws := made) (p := fun _ => false) (f := fun w => w) rfl (by show 5 ≤ 16777216; decide) (fun w hw => by
      have ht : F 60 .f__law_told [w, .bl (decide (i = 0))] (st0 p2) = .ok (.bl true) (st0 p2) := by
        simp only [made, List.mem_cons, List.not_mem_nil, or_false] at hw
        rcases hw with rfl | rfl | rfl | rfl | rfl
        · exact told_good hc2 G1 (by decide)
        · exact told_good hc2 G2 (by decide)
        · exact told_good hc2 G3 (by decide)
        · exact told_good hc2 G4 (by decide)
        · exact told_good hc2 G5 (by decide)
      simp only [tNot_ap, tE_ap, eCall_ap, evs_cons, evs_nil, eVar_ap, wipeE, List.set_cons_zero, List.set_cons_succ, List.getElem?_cons_zero, List.getElem?_cons_succ, R.bind_ok, ht, tru_bl, liftB_some, Bool.not_true]) (fun w hw h => by cases h)
    rw [this]
    rfl
  have z3 : lw3 (F 60) [some (.scr ns), some (.ref 0), some (.int i), some (.bl (decide (i = 0))), some (.lst made), x5, x6, x7] (st0 p2) = .nx [some (.scr ns), some (.ref 0), some (.int i), some (.bl (decide (i = 0))), some (.lst made), x5, x6, x7] (st0 p2) := by
    simp only [lw3, sIf_ap, tB_ap, e2_ap, hz3, R.bind_ok, eN_ap, evs_nil, lst0, mkL_f, lift_some, neD_nil, bol_bl, liftB_some, R.thn_ok, Bool.false_eq_true, if_false, sNil_ap]
  -- one of three
  obtain ⟨op, hop, hmo⟩ : ∃ op, op ∈ many3 i ∧ made[2 + r]? = some (wO op) := by
    have hr : r = 0 ∨ r = 1 ∨ r = 2 := by omega
    rcases hr with rfl | rfl | rfl
    · exact ⟨_, by simp [many3], rfl⟩
    · exact ⟨_, by simp [many3], rfl⟩
    · exact ⟨_, by simp [many3], rfl⟩
  have G6 := good_of (M op hop).1
  have G7 := good_of (M op hop).2
  have hg4 : getW gdT (.lst made) (.int (2 + (r : Int))) (st0 p3) = some (wO op, st0 p3) := by
    have : (2 : Int) + (r : Int) = ((2 + r : Nat) : Int) := by omega
    rw [this, get_lst, atI_n, hmo]; rfl
  have z4 : lw4 (F 60) [some (.scr ns), some (.ref 0), some (.int i), some (.bl (decide (i = 0))), some (.lst made), x5, x6, x7] (st0 p2) = .nx [some (.scr ns), some (.ref 0), some (.int i), some (.bl (decide (i = 0))), some (.lst made), some (wO op), x6, x7] (st0 p3) := by
    simp only [lw4, sSet_ap, e2_ap, eVar_ap, eC_ap, eCall_ap, evs_cons, evs_nil, List.getElem?_cons_zero, List.getElem?_cons_succ, R.bind_ok, b6, add_int, lift_some, hg4, R.thn_ok, List.set_cons_zero, List.set_cons_succ]
  have ht7 : F 60 .f__law_told [.tup [.str "choice", .tup [.str "give", .tup []], wO op], .bl (decide (i = 0))] (st0 p3) = .ok (.bl true) (st0 p3) := told_good (op := .alt false (.give false false []) op) hc3 G7 (by decide)
  have z5 : lw5 (F 60) [some (.scr ns), some (.ref 0), some (.int i), some (.bl (decide (i = 0))), some (.lst made), some (wO op), x6, x7] (st0 p3) = .nx [some (.scr ns), some (.ref 0), some (.int i), some (.bl (decide (i = 0))), some (.lst made), some (wO op), x6, x7] (st0 p3) := by
    simp only [lw5, sIf_ap, tNot_ap, tE_ap, eCall_ap, evs_cons, evs_nil, eN_ap, eC_ap, eVar_ap, List.getElem?_cons_zero, List.getElem?_cons_succ, R.bind_ok, tupN_ap, List.length_cons, List.length_nil, szl, Nat.zero_add, Nat.reduceAdd, Nat.reduceLeDiff, Nat.zero_le, if_true, lift_some, ht7, tru_bl, liftB_some, Bool.not_true, R.thn_ok, Bool.false_eq_true, if_false, sNil_ap]
  have z6 : lw6 (F 60) [some (.scr ns), some (.ref 0), some (.int i), some (.bl (decide (i = 0))), some (.lst made), some (wO op), x6, x7] (st0 p3) = .nx [some (.scr ns), some (.ref 0), some (.int i), some (.bl (decide (i = 0))), some (.lst made), some (wO op), some (wO (wrongO op)), x7] (st0 p3) := by
    simp only [lw6, sSet_ap, evs_cons, evs_nil, eN_ap, eC_ap, eVar_ap, List.getElem?_cons_zero, List.getElem?_cons_succ, R.bind_ok, tupN_ap, List.length_cons, List.length_nil, szl, Nat.zero_add, Nat.reduceAdd, Nat.reduceLeDiff, Nat.zero_le, if_true, lift_some, R.thn_ok, List.set_cons_zero, List.set_cons_succ]
    rfl
  have q1 : F 60 .f_open_fault [wO (wrongO op)] (st0 p3) = .ok (.tup [.int 2, .int 1, .int 0]) (st0 p3) := wrong_fault hc3 G6.ok G6.dp (by decide)
  have q2 : F 60 .f_is_open [wO (wrongO op)] (st0 p3) = .ok (.bl false) (st0 p3) := wrong_open hc3 G6.ok G6.dp (by decide)
  have q3 : F 60 .f__law_refused [wO (wrongO op)] (st0 p3) = .ok (.tup [.int 2, .int 1, .int 0]) (st0 p3) := wrong_refused hc3 G6.ok G6.dp (by decide)
  have z7 : lw7 (F 60) [some (.scr ns), some (.ref 0), some (.int i), some (.bl (decide (i = 0))), some (.lst made), some (wO op), some (wO (wrongO op)), x7] (st0 p3) = .nx [some (.scr ns), some (.ref 0), some (.int i), some (.bl (decide (i = 0))), some (.lst made), some (wO op), some (wO (wrongO op)), x7] (st0 p3) := by
    simp only [lw7, sIf_ap, tOr_ap, tB_ap, e2_ap, eCall_ap, evs_cons, evs_nil, eN_ap, eC_ap, eVar_ap, List.getElem?_cons_zero, List.getElem?_cons_succ, R.bind_ok, q1, q2, q3, tupN_ap, List.length_cons, List.length_nil, szl, Nat.zero_add, Nat.reduceAdd, Nat.reduceLeDiff, Nat.zero_le, if_true, lift_some, neD_210, notB_ap, bol_bl, liftB_some, decide_true, Bool.not_true, R.thn_ok, Bool.false_eq_true, if_false, sNil_ap]
  have run : lwB (F 60) [some (.scr ns), some (.ref 0), some (.int i), x3, x4, x5, x6, x7] (st0 p) = (lw8 (F 60) [some (.scr ns), some (.ref 0), some (.int i), some (.bl (decide (i = 0))), some (.lst made), some (wO op), some (wO (wrongO op)), x7] (st0 p3)).seq (sSeq (lw9 (F 60)) (sSeq (lw10 (F 60)) (lw11 (F 60)))) := by
    simp only [lwB, sSeq_ap, z0, z1, z2, z3, z4, z5, z6, z7, RS.seq_nx]
  rw [run]
  by_cases h0 : i = 0
  · simp only [if_pos h0]
    subst h0
    have z8 : lw8 (F 60) [some (.scr ns), some (.ref 0), some (.int ((0 : Nat) : Int)), some (.bl (decide (0 = 0))), some (.lst made), some (wO op), some (wO (wrongO op)), x7] (st0 p3) = .nx [some (.scr ns), some (.ref 0), some (.int ((0 : Nat) : Int)), some (.bl (decide (0 = 0))), some (.lst made), some (wO op), some (wO (wrongO op)), x7] (st0 p3) := by
      simp only [lw8, sIf_ap, tNot_ap, tE_ap, eVar_ap, List.getElem?_cons_zero, List.getElem?_cons_succ, R.bind_ok, tru_bl, liftB_some, decide_true, Bool.not_true, R.thn_ok, Bool.false_eq_true, if_false, sNil_ap]
    have O1 : Okd op1 := ⟨G1.ok, G1.bn⟩
    have O3 : Okd (nmO 3 3) := ⟨G3.ok, G3.bn⟩
    have O4 : Okd (rwO 3) := ⟨G4.ok, G4.bn⟩
    have O5 : Okd (kpO 3) := ⟨G5.ok, G5.bn⟩
    have w9 : F 60 .f_ways [wO op1] (st0 p3) = .ok (.int 20) (st0 p3) := by
      have := ways_eq (n := 60) hc3 O1 (by decide)
      rw [w1 rfl] at this; exact this
    have gm : ∀ k w, made[k]? = some w → getW gdT (.lst made) (.int (k : Nat)) (st0 p3) = some (w, st0 p3) := fun k w h => by rw [get_lst, atI_n, h]; rfl
    have gm0 : getW gdT (.lst made) (.int 0) (st0 p3) = some (wO op1, st0 p3) := gm 0 _ rfl
    have gm2 : getW gdT (.lst made) (.int 2) (st0 p3) = some (wO (nmO 3 3), st0 p3) := gm 2 _ rfl
    have gm3 : getW gdT (.lst made) (.int 3) (st0 p3) = some (wO (rwO 3), st0 p3) := gm 3 _ rfl
    have gm4 : getW gdT (.lst made) (.int 4) (st0 p3) = some (wO (kpO 3), st0 p3) := gm 4 _ rfl
    have z9 : lw9 (F 60) [some (.scr ns), some (.ref 0), some (.int ((0 : Nat) : Int)), some (.bl (decide (0 = 0))), some (.lst made), some (wO op), some (wO (wrongO op)), x7] (st0 p3) = .nx [some (.scr ns), some (.ref 0), some (.int ((0 : Nat) : Int)), some (.bl (decide (0 = 0))), some (.lst made), some (wO op), some (wO (wrongO op)), x7] (st0 p3) := by
      simp only [lw9, sIf_ap, tB_ap, e2_ap, eCall_ap, evs_cons, evs_nil, eC_ap, eVar_ap, List.getElem?_cons_zero, List.getElem?_cons_succ, R.bind_ok, gm0, lift_some, w9, ne_int, decide_true, Bool.not_true, bol_bl, liftB_some, R.thn_ok, Bool.false_eq_true, if_false, sNil_ap]
    have m1 : F 60 .f_most_names [wO (nmO 3 3)] (st0 p3) = .ok (.int 3) (st0 p3) := by
      have := most_names_eq (n := 60) hc3 O3 (by decide)
      rw [show mxN (nmO 3 3) = 3 from by decide +kernel] at this; exact this
    have m2 : F 60 .f_row_names [wO (nmO 3 3)] (st0 p3) = .ok (.lst [.str "r", .str "s", .str "t"]) (st0 p3) := by
      have := row_names_eq (n := 60) hc3 O3 (by decide)
      rw [rows_nm] at this; exact this
    have m3 : F 60 .f_row_names [wO (rwO 3)] (st0 p3) = .ok (.lst [.str "r", .str "s", .str "t"]) (st0 p3) := by
      have := row_names_eq (n := 60) hc3 O4 (by decide)
      rw [rows_rw] at this; exact this
    have m4 : F 60 .f_variables [wO (kpO 3)] (st0 p3) = .ok (.lst [.str "e", .str "f", .str "g"]) (st0 p3) := by
      have := variables_eq (n := 60) hc3 O5 (by decide)
      rw [kept_kp] at this; exact this
    have z10 : lw10 (F 60) [some (.scr ns), some (.ref 0), some (.int ((0 : Nat) : Int)), some (.bl (decide (0 = 0))), some (.lst made), some (wO op), some (wO (wrongO op)), x7] (st0 p3) = .nx [some (.scr ns), some (.ref 0), some (.int ((0 : Nat) : Int)), some (.bl (decide (0 = 0))), some (.lst made), some (wO op), some (wO (wrongO op)), some (.lst [.int 3, .lst [.str "r", .str "s", .str "t"], .lst [.str "r", .str "s", .str "t"], .lst [.str "e", .str "f", .str "g"]])] (st0 p3) := by
      simp only [lw10, sSet_ap, eN_ap, e2_ap, eCall_ap, evs_cons, evs_nil, eC_ap, eVar_ap, List.getElem?_cons_zero, List.getElem?_cons_succ, R.bind_ok, gm2, gm3, gm4, lift_some, m1, m2, m3, m4, lstN_ap, List.length_cons, List.length_nil, szl, Nat.zero_add, Nat.reduceAdd, Nat.reduceLeDiff, if_true, mkL_f, R.thn_ok, List.set_cons_zero, List.set_cons_succ]
    have z11 : lw11 (F 60) [some (.scr ns), some (.ref 0), some (.int ((0 : Nat) : Int)), some (.bl (decide (0 = 0))), some (.lst made), some (wO op), some (wO (wrongO op)), some (.lst [.int 3, .lst [.str "r", .str "s", .str "t"], .lst [.str "r", .str "s", .str "t"], .lst [.str "e", .str "f", .str "g"]])] (st0 p3) = .nx [some (.scr ns), some (.ref 0), some (.int ((0 : Nat) : Int)), some (.bl (decide (0 = 0))), some (.lst made), some (wO op), some (wO (wrongO op)), some (.lst [.int 3, .lst [.str "r", .str "s", .str "t"], .lst [.str "r", .str "s", .str "t"], .lst [.str "e", .str "f", .str "g"]])] (st0 p3) := by
      simp only [lw11, sIf_ap, tB_ap, e2_ap, eN_ap, evs_cons, evs_nil, eC_ap, eVar_ap, List.getElem?_cons_zero, List.getElem?_cons_succ, R.bind_ok, lstN_ap, List.length_cons, List.length_nil, szl, Nat.zero_add, Nat.reduceAdd, Nat.reduceLeDiff, if_true, mkL_f, lift_some, neD_told, bol_bl, liftB_some, R.thn_ok, Bool.false_eq_true, if_false, sNil_ap]
    refine ⟨p3, some (.bl (decide (0 = 0))), some (.lst made), some (wO op), some (wO (wrongO op)), some (.lst [.int 3, .lst [.str "r", .str "s", .str "t"], .lst [.str "r", .str "s", .str "t"], .lst [.str "e", .str "f", .str "g"]]), ?_⟩
    rw [z8, RS.seq_nx, sSeq_ap, z9, RS.seq_nx, sSeq_ap, z10, RS.seq_nx]
    exact z11
  · simp only [if_neg h0]
    have hf : decide (i = 0) = false := decide_eq_false h0
    refine ⟨p3, some (.bl (decide (i = 0))), some (.lst made), some (wO op), some (wO (wrongO op)), x7, ?_⟩
    simp only [lw8, sIf_ap, tNot_ap, tE_ap, eVar_ap, List.getElem?_cons_zero, List.getElem?_cons_succ, R.bind_ok, tru_bl, liftB_some, hf, Bool.not_false, R.thn_ok, if_true, sCnt_ap, RS.seq_cnt]
theorem law_true0 (ns : List Int) (hl : ns.length ≤ 63) : ∃ S', runDef 1 8 (b_law (F 60)) [.scr ns] [] = .ok (.bl true) S' := by
  have hst : ([] : Store) ++ [Ob.lst [.int 0, .int 0, .int 0, .int 0]] = st0 ⟨0, 0, 0, 0, by decide⟩ := rfl
  refine ⟨[], ?_⟩
  rw [b_law_eq]
  simp only [run1, startE_cons, startE0, List.replicate, sSeq_ap, sSet_ap, eN_ap, evs_cons, evs_nil, eC_ap, R.bind_ok, lstN_ap, List.length_cons, List.length_nil, szl, Nat.zero_add, Nat.reduceAdd, Nat.reduceLeDiff, if_true, mkL_t, lift_some, R.thn_ok, RS.seq_nx, List.set_cons_zero, List.set_cons_succ]
  rw [hst]
  refine fin_inv (J := itR 0 2) (fun i e S' => i ≤ 2 ∧ ∃ (p : Pl) (x2 x3 x4 x5 x6 x7 : Option W), S' = st0 p ∧ e = [some (.scr ns), some (.ref 0), x2, x3, x4, x5, x6, x7]) 2 (by have := fuel_ge; omega) (iRange1_ok (n := 2) rfl (by decide)) ⟨Nat.zero_le _, _, none, none, none, none, none, none, rfl, rfl⟩ (fun i e S h => h.1) ?_
  rintro i e S' ⟨hi, p, x2, x3, x4, x5, x6, x7, rfl, rfl⟩
  by_cases hil : i < 2
  · refine .inr ⟨.int i, _, _, by simp [itR, hil], rfl, ?_⟩
    obtain ⟨p', y3, y4, y5, y6, y7, hb⟩ := body_eq (p := p) (ns := ns) hil x3 x4 x5 x6 x7
    have hb' : lwB (F 60) ([some (W.scr ns), some (W.ref 0), x2, x3, x4, x5, x6, x7].set 2 (some (W.int (i : Int)))) (st0 p) = _ := hb
    rw [hb']
    by_cases h0 : i = 0
    · rw [if_pos h0]
      exact ⟨hil, p', _, y3, y4, y5, y6, y7, rfl, rfl⟩
    · rw [if_neg h0]
      exact ⟨hil, p', _, y3, y4, y5, y6, y7, rfl, rfl⟩
  · have hie : i = 2 := by omega
    subst hie
    refine .inl ⟨by simp [itR], ?_⟩
    obtain ⟨r, p1, t1, t2⟩ := take_eq (n := 59) (p := p) okT_nil (ns := ns) (k := 40) (by decide) (by decide)
    have c1 : (1 : Int) + (r : Int) = ((1 + r : Nat) : Int) := by omega
    obtain ⟨op, p2, a1, g1, d1, u1, w1, k1⟩ := even_eq (n := 58) (p := p1) okT_nil (ns := ns) (m := 1 + r) (by omega) (by omega)
    have G := even_good g1 d1 u1 k1 (by omega)
    rw [decide_eq_true (show 1 + r ≤ 40 by omega)] at G
    have ht := told_good (n := 60) (S := st0 p2) (clo_st okT_nil) G (by decide)
    have t1' : F 60 .f__law_take [.scr ns, .ref 0, .int 40] (st0 p) = .ok (.int r) (st0 p1) := t1
    have a1' : F 60 .f__law_even [.scr ns, .ref 0, .int ((1 + r : Nat) : Int)] (st0 p1) = .ok (wO op) (st0 p2) := a1
    simp only [lwE, sSeq_ap, sSet_ap, eCall_ap, evs_cons, evs_nil, e2_ap, eC_ap, eVar_ap, List.getElem?_cons_zero, List.getElem?_cons_succ, R.bind_ok, t1', add_int, lift_some, c1, a1', R.thn_ok, RS.seq_nx, List.set_cons_zero, List.set_cons_succ, sRet_ap, ht, fin_ret]
    exact cut_low (S := []) (J := st0 p2) rfl rfl
end Sh

set_option Elab.async false
set_option linter.all false
set_option maxRecDepth 100000
set_option maxHeartbeats 0
namespace Sh
theorem law_true (ns : List Int) (hl : ns.length ≤ 63) : ∃ S', runDef 1 N_law.length (b_law (F 60)) [.scr ns] [] = .ok (.bl true) S' := law_true0 ns hl
end Sh
open PySem PySem.W PySem.Calls PyProof.Rows in
theorem PySem.Challenge.cw_triedagain_k61_open_bounds_holds : PySem.Challenge.rw_triedagain_k61_open_bounds.Holds := by
  w_on; o_law
  refine HandSHeadRun.head_any (r := OpenLaw.row PySem.Challenge.rw_triedagain_k61_open_bounds) (q := view (OpenLaw.row PySem.Challenge.rw_triedagain_k61_open_bounds).prog [57]) (H := Sh.hk) (ob := Sh.ob) (M := 30000) (loose := Sh.names) (d := HandSHeadRun.topDef (OpenLaw.row PySem.Challenge.rw_triedagain_k61_open_bounds).prog 57) (kwd := []) Sh.ob_eq
    (by kernel_rfl) (fun s => by kernel_rfl) Sh.run (by kernel_rfl) (by kernel_rfl) (by kernel_rfl) (by rfl) (by first | assumption | decide +kernel) (by decide +kernel) ⟨rfl, rfl, rfl, rfl, rfl, by decide +kernel⟩ ?hw ?hc
  case hw => w_witness2
  case hc =>
    have hP : Sh.SupP PySem.Challenge.pw_triedagain_k61_open_bounds := ⟨rfl, by decide +kernel⟩
    refine Sh.law_endJ (l := PySem.Challenge.rw_triedagain_k61_open_bounds) (n := 63) (k := 2 * 60 + 1) (x := "law") (st := Sh.s_law) (N := Sh.N_law) (b := Sh.b_law (Sh.F 60)) rfl (by decide) (by kernel_rfl) ⟨rfl, by decide, by decide⟩ (by kernel_rfl) Sh.bi_law Sh.sc_law (fun w mg h Y G => ?_) (fun ns hl => Sh.law_true ns hl)
    obtain ⟨⟨⟨K, KX, c, cs⟩, hsta⟩, hs⟩ := Y
    have U := Sh.facts KX G c cs
    exact ⟨hs, hsta, K, KX, U.u_law, fun base hb hst => fun f cd s H E => Sh.d_law (Sh.all_ok U hP hst 60) f cd callerA [] s H E (L2.Room.deeper ⟨rfl, by decide, by decide⟩ _)⟩

