import PyProof.Rows.All
import Wide.All
import OpenK.AllK
import Wide.FinOn
import PySem.Challenge.RW_triedagain_k05_expressions_written
import HandS.Head2
import HandS.HeadEnd
import KE.KIsAll
import HandS.HeadHook1
import HandS.Base
import HandS.Call
import HandS.Exc
import HandS.Words
import HandS.Flow
import HandS.Comp
import HandS.TupAny
import HandS.Iter
import HandS.TryOnly
import HandS.List
import HandS.Dict
import HandS.Text
import HandS.More
import HandS.IsInst
import HandS.Conv
import HandS.RaiseMore
import HandS.ExcOwn
import HandS.CallSlots
import PyProof.DictUpdate
import HandS.WordsExc
import HandS.Defaults
import PyProof.AutoSeq1
import HandS.HeadHook4
import PyProof.ReprRoads
import PyProof.CallFns
import HandS.TryMany
import HandS.ExcIs
import HandS.ExcBuiltin
import HandS.AnyAll
import KE.KStateDown
import HandS.Head0
import HandS.Head1
import PyProof.ReprLen
set_option Elab.async false
set_option linter.all false
set_option maxRecDepth 100000
set_option maxHeartbeats 2000000
/-! ShV: a hook that tells that the modules' dict is a dict. -/
namespace Sh
open PySem PySem.Spec PyProof.Rows L2
/-- the module dict's place is no list -/
def SysD (base : Heap) : Prop := ∃ o, base.get? sysModules = some o ∧ o.cls = .type "dict"
def sysB (g : Addr → Option Obj) : Bool := match g sysModules with
  | some o => match o.cls with
    | .type n => n == "dict"
    | _ => false
  | none => false
theorem sysB_ok {h : Heap} (e : sysB h.get? = true) : SysD h := by
  unfold sysB at e
  split at e
  · rename_i o ho
    split at e
    · rename_i n hn
      exact ⟨o, ho, by rw [hn, eq_of_beq e]⟩
    · cases e
  · cases e
/-- a hook, and this -/
def hookS (H0 : PySem.W.Hook) : PySem.W.Hook where
  α := H0.α × Bool
  obs := fun s => (H0.obs s, sysB s.heap.get?)
  val := fun w => (H0.val w, true)
  says := fun w h => H0.says w h ∧ SysD h
  of := fun w s e => ⟨H0.of w s (congrArg (fun z => z.1) e), sysB_ok (congrArg (fun z => z.2) e)⟩
  keeps := fun w h h' ⟨a, o, e1, e2⟩ k => ⟨H0.keeps w h h' a k, o, k _ _ e1, e2⟩
theorem obS_eq {H0 : PySem.W.Hook} {ob : PySem.W.SharedT → H0.α} (e : ∀ s, ob s = H0.obs s.abs) (s : PySem.W.SharedT) : (ob s, sysB (HandSHeadRun.getT s)) = (hookS H0).obs s.abs := by
  have h : HandSHeadRun.getT s = s.abs.heap.get? := funext (HandSHeadRun.getT_eq s)
  show (ob s, sysB (HandSHeadRun.getT s)) = (H0.obs s.abs, sysB s.abs.heap.get?)
  rw [e, h]
/-! ### facts of exceptions, for the head's run -/
/-- what ExcC asks -/
def xcB (K : PySem.W.Frag) (D : Addr) : Bool := decide (PySem.W.findIn K (.ref D) "__getattribute__" = some (some (.builtin "BaseException.__getattribute__"))) && (decide (PySem.W.findIn K (.ref D) "__getattr__" = some none) && (decide (PySem.W.subIn K (.ref D) (.type "BaseException") = some true) && (PySem.W.hasDictIn K D &&
  (decide (PySem.W.findIn K (.ref D) "__class__" = some (some (.builtin "object.__class__"))) && (decide (PySem.W.specialIn K (.builtin "object.__class__") "__get__" = some (some (.builtin "getset_descriptor.__get__"))) && (decide (PySem.W.takesIn K (.builtin "object.__class__") = some true) && decide (PySem.W.mroIn K D (.type "object") = some true)))))))
/-- isinstance's answers: pairs of class and answer -/
def kiB (K : PySem.W.Frag) (cv : Value) (L : List (Str × Bool)) : Bool := L.all fun p => xcB K (He.ga K p.1) && decide (PySem.W.kitOne K (.ref (He.ga K p.1)) cv = some p.2)
end Sh

set_option Elab.async false
set_option linter.all false
set_option maxRecDepth 100000
set_option maxHeartbeats 0
/-! the run of the head, with its tables -/
namespace Sh
open PySem PySem.Spec PyProof.Rows L2
def top (i : Nat) : Stmt := PySem.Challenge.pw_triedagain_k05_expressions_written.main.body.getD i (.Pass ⟨0, 0, 0, 0⟩)
abbrev s_is_row : Stmt := (top 12)
abbrev s_is_integer : Stmt := (top 13)
abbrev s_is_name : Stmt := (top 14)
abbrev s_is_character : Stmt := (top 15)
abbrev s_is_written : Stmt := (top 16)
abbrev s_is_word : Stmt := (top 17)
abbrev s_is_plain : Stmt := (top 18)
abbrev s_is_row_of_parts : Stmt := (top 19)
abbrev s_is_within : Stmt := (top 20)
abbrev s_is_expression : Stmt := (top 22)
abbrev s_joined : Stmt := (top 26)
abbrev s_pair : Stmt := (top 27)
abbrev s_written : Stmt := (top 28)
abbrev s_bracketed : Stmt := (top 29)
abbrev s_expression_text : Stmt := (top 30)
abbrev s__law_bag : Stmt := (top 32)
abbrev s__law_mixed : Stmt := (top 33)
abbrev s__law_draw : Stmt := (top 34)
abbrev s__law_words : Stmt := (top 35)
abbrev s__law_letters : Stmt := (top 36)
abbrev s__law_name : Stmt := (top 37)
abbrev s__law_written : Stmt := (top 38)
abbrev s__law_shapes : Stmt := (top 39)
abbrev s__law_leaf : Stmt := (top 40)
abbrev s__law_item : Stmt := (top 41)
abbrev s__law_expression : Stmt := (top 42)
abbrev s__law_is_name : Stmt := (top 43)
abbrev s__law_is_text : Stmt := (top 44)
abbrev s__law_is_item : Stmt := (top 45)
abbrev s__law_is : Stmt := (top 46)
abbrev s__law_parts : Stmt := (top 47)
abbrev s__law_walk : Stmt := (top 48)
abbrev s__law_with : Stmt := (top 49)
abbrev s__law_texts : Stmt := (top 50)
abbrev s__law_text : Stmt := (top 51)
abbrev s__law_odd : Stmt := (top 52)
abbrev s__law_told : Stmt := (top 53)
abbrev s_law : Stmt := (top 54)
def fnD : List He.DefD := [
  ⟨("is_row", none), "is_row", "is_row", defArgs s_is_row, defBody s_is_row, defScope s_is_row, [], []⟩,
  ⟨("is_integer", none), "is_integer", "is_integer", defArgs s_is_integer, defBody s_is_integer, defScope s_is_integer, [], []⟩,
  ⟨("is_name", none), "is_name", "is_name", defArgs s_is_name, defBody s_is_name, defScope s_is_name, [], []⟩,
  ⟨("is_character", none), "is_character", "is_character", defArgs s_is_character, defBody s_is_character, defScope s_is_character, [], []⟩,
  ⟨("is_written", none), "is_written", "is_written", defArgs s_is_written, defBody s_is_written, defScope s_is_written, [], []⟩,
  ⟨("is_word", none), "is_word", "is_word", defArgs s_is_word, defBody s_is_word, defScope s_is_word, [], []⟩,
  ⟨("is_plain", none), "is_plain", "is_plain", defArgs s_is_plain, defBody s_is_plain, defScope s_is_plain, [], []⟩,
  ⟨("is_row_of_parts", none), "is_row_of_parts", "is_row_of_parts", defArgs s_is_row_of_parts, defBody s_is_row_of_parts, defScope s_is_row_of_parts, [], []⟩,
  ⟨("is_within", none), "is_within", "is_within", defArgs s_is_within, defBody s_is_within, defScope s_is_within, [], []⟩,
  ⟨("is_expression", none), "is_expression", "is_expression", defArgs s_is_expression, defBody s_is_expression, defScope s_is_expression, [], []⟩,
  ⟨("joined", none), "joined", "joined", defArgs s_joined, defBody s_joined, defScope s_joined, [], []⟩,
  ⟨("pair", none), "pair", "pair", defArgs s_pair, defBody s_pair, defScope s_pair, [], []⟩,
  ⟨("written", none), "written", "written", defArgs s_written, defBody s_written, defScope s_written, [], []⟩,
  ⟨("bracketed", none), "bracketed", "bracketed", defArgs s_bracketed, defBody s_bracketed, defScope s_bracketed, [], []⟩,
  ⟨("expression_text", none), "expression_text", "expression_text", defArgs s_expression_text, defBody s_expression_text, defScope s_expression_text, [], []⟩,
  ⟨("_law_bag", none), "_law_bag", "_law_bag", defArgs s__law_bag, defBody s__law_bag, defScope s__law_bag, [], []⟩,
  ⟨("_law_mixed", none), "_law_mixed", "_law_mixed", defArgs s__law_mixed, defBody s__law_mixed, defScope s__law_mixed, [], []⟩,
  ⟨("_law_draw", none), "_law_draw", "_law_draw", defArgs s__law_draw, defBody s__law_draw, defScope s__law_draw, [], []⟩,
  ⟨("_law_words", none), "_law_words", "_law_words", defArgs s__law_words, defBody s__law_words, defScope s__law_words, [], []⟩,
  ⟨("_law_letters", none), "_law_letters", "_law_letters", defArgs s__law_letters, defBody s__law_letters, defScope s__law_letters, [], []⟩,
  ⟨("_law_name", none), "_law_name", "_law_name", defArgs s__law_name, defBody s__law_name, defScope s__law_name, [], []⟩,
  ⟨("_law_written", none), "_law_written", "_law_written", defArgs s__law_written, defBody s__law_written, defScope s__law_written, [], []⟩,
  ⟨("_law_shapes", none), "_law_shapes", "_law_shapes", defArgs s__law_shapes, defBody s__law_shapes, defScope s__law_shapes, [], []⟩,
  ⟨("_law_leaf", none), "_law_leaf", "_law_leaf", defArgs s__law_leaf, defBody s__law_leaf, defScope s__law_leaf, [], []⟩,
  ⟨("_law_item", none), "_law_item", "_law_item", defArgs s__law_item, defBody s__law_item, defScope s__law_item, [], []⟩,
  ⟨("_law_expression", none), "_law_expression", "_law_expression", defArgs s__law_expression, defBody s__law_expression, defScope s__law_expression, [], []⟩,
  ⟨("_law_is_name", none), "_law_is_name", "_law_is_name", defArgs s__law_is_name, defBody s__law_is_name, defScope s__law_is_name, [], []⟩,
  ⟨("_law_is_text", none), "_law_is_text", "_law_is_text", defArgs s__law_is_text, defBody s__law_is_text, defScope s__law_is_text, [], []⟩,
  ⟨("_law_is_item", none), "_law_is_item", "_law_is_item", defArgs s__law_is_item, defBody s__law_is_item, defScope s__law_is_item, [], []⟩,
  ⟨("_law_is", none), "_law_is", "_law_is", defArgs s__law_is, defBody s__law_is, defScope s__law_is, [], []⟩,
  ⟨("_law_parts", none), "_law_parts", "_law_parts", defArgs s__law_parts, defBody s__law_parts, defScope s__law_parts, [], []⟩,
  ⟨("_law_walk", none), "_law_walk", "_law_walk", defArgs s__law_walk, defBody s__law_walk, defScope s__law_walk, [], []⟩,
  ⟨("_law_with", none), "_law_with", "_law_with", defArgs s__law_with, defBody s__law_with, defScope s__law_with, [], []⟩,
  ⟨("_law_texts", none), "_law_texts", "_law_texts", defArgs s__law_texts, defBody s__law_texts, defScope s__law_texts, [], []⟩,
  ⟨("_law_text", none), "_law_text", "_law_text", defArgs s__law_text, defBody s__law_text, defScope s__law_text, [], []⟩,
  ⟨("_law_odd", none), "_law_odd", "_law_odd", defArgs s__law_odd, defBody s__law_odd, defScope s__law_odd, [], []⟩,
  ⟨("_law_told", none), "_law_told", "_law_told", defArgs s__law_told, defBody s__law_told, defScope s__law_told, [], []⟩,
  ⟨("law", none), "law", "law", defArgs s_law, defBody s_law, defScope s_law, [], []⟩]
def t_ALONE : List He.Dv := [.str ("nothing" : Str), .str ("fall" : Str), .str ("here" : Str)]
def t_BETWEEN : List (Str × He.Dv) := [(("or" : Str), .str ("|" : Str)), (("and" : Str), .str ("&" : Str)), (("to" : Str), .str ("to" : Str))]
def t_LEAVING : List He.Dv := [.str ("back" : Str), .str ("out" : Str), .str ("fall" : Str)]
def t_OPERATORS : List He.Dv := [.str ("+" : Str), .str ("-" : Str), .str ("*" : Str), .str ("/" : Str), .str ("mod" : Str), .str ("." : Str)]
def t_SHAPES : List (Str × He.Dv) := ((("nothing" : Str), .str ("" : Str)) :: (("number" : Str), .str ("n" : Str)) :: (("text" : Str), .str ("t" : Str)) :: (("name" : Str), .str ("x" : Str)) :: (("list" : Str), .str ("l" : Str)) :: (("op" : Str), .str ("oee" : Str)) :: (("test" : Str), .str ("cee" : Str)) :: (("or" : Str), .str ("ee" : Str)) :: (("and" : Str), .str ("ee" : Str)) :: (("first" : Str), .str ("e" : Str)) :: (("no" : Str), .str ("e" : Str)) :: (("if" : Str), .str ("eee" : Str)) :: (("most" : Str), .str ("me" : Str)) :: (("again" : Str), .str ("e" : Str)) :: (("to" : Str), .str ("ee" : Str)) :: (("items" : Str), .str ("e" : Str)) :: (("give" : Str), .str ("xe" : Str)) :: (("lend" : Str), .str ("xe" : Str)) :: (("every" : Str), .str ("ee" : Str)) :: (("while" : Str), .str ("ee" : Str)) :: (("do" : Str), .str ("d" : Str)) :: (("call" : Str), .str ("ea" : Str)) :: (("back" : Str), .str ("e" : Str)) :: (("out" : Str), .str ("e" : Str)) :: (("fall" : Str), .str ("" : Str)) :: (("keep" : Str), .str ("e" : Str)) :: (("ask" : Str), .str ("e" : Str)) :: (("anew" : Str), .str ("e" : Str)) :: (("scan" : Str), .str ("ee" : Str)) :: (("move" : Str), .str ("e" : Str)) :: (("tab" : Str), .str ("e" : Str)) :: (("find" : Str), .str ("e" : Str)) :: (("reach" : Str), .str ("e" : Str)) :: (("many" : Str), .str ("e" : Str)) :: (("match" : Str), .str ("e" : Str)) :: (("here" : Str), .str ("" : Str)) :: (("put" : Str), .str ("ee" : Str)) :: (("take" : Str), .str ("e" : Str)) :: (("size" : Str), .str ("e" : Str)) :: (("at" : Str), .str ("ee" : Str)) :: (("place" : Str), .str ("eee" : Str)) :: (("say" : Str), .str ("e" : Str)) :: [])
def t_TESTS : List He.Dv := [.str ("<" : Str), .str ("<=" : Str), .str ("=" : Str), .str ("<>" : Str), .str ("is" : Str), .str ("isnt" : Str)]
def t_WORDS : List He.Dv := (.str ("nothing" : Str) :: .str ("first" : Str) :: .str ("no" : Str) :: .str ("if" : Str) :: .str ("most" : Str) :: .str ("again" : Str) :: .str ("to" : Str) :: .str ("items" : Str) :: .str ("every" : Str) :: .str ("while" : Str) :: .str ("do" : Str) :: .str ("call" : Str) :: .str ("back" : Str) :: .str ("out" : Str) :: .str ("fall" : Str) :: .str ("keep" : Str) :: .str ("ask" : Str) :: .str ("anew" : Str) :: .str ("scan" : Str) :: .str ("move" : Str) :: .str ("tab" : Str) :: .str ("find" : Str) :: .str ("reach" : Str) :: .str ("many" : Str) :: .str ("match" : Str) :: .str ("here" : Str) :: .str ("put" : Str) :: .str ("take" : Str) :: .str ("size" : Str) :: .str ("at" : Str) :: .str ("place" : Str) :: .str ("say" : Str) :: .str ("is" : Str) :: .str ("isnt" : Str) :: .str ("list" : Str) :: .str ("mod" : Str) :: [])
def t_itl_TriedError : List (Str × Bool) := [(("NoExpression" : Str), true)]
def t_itl_ValueError : List (Str × Bool) := [(("NoExpression" : Str), true)]
def exL : List (Str × Str × Bool) := [(("NoExpression" : Str), ("NoExpression" : Str), true), (("NoExpression" : Str), ("NoText" : Str), false), (("NoExpression" : Str), ("TriedError" : Str), true)]
def faD : List He.Fa := [.glo "is_row", .glo "is_integer", .glo "is_name", .glo "is_character", .glo "is_written", .glo "is_word", .glo "is_plain", .glo "is_row_of_parts", .glo "is_within", .glo "is_expression", .glo "joined", .glo "pair", .glo "written", .glo "bracketed", .glo "expression_text", .glo "_law_bag", .glo "_law_mixed", .glo "_law_draw", .glo "_law_words", .glo "_law_letters", .glo "_law_name", .glo "_law_written", .glo "_law_shapes", .glo "_law_leaf", .glo "_law_item", .glo "_law_expression", .glo "_law_is_name", .glo "_law_is_text", .glo "_law_is_item", .glo "_law_is", .glo "_law_parts", .glo "_law_walk", .glo "_law_with", .glo "_law_texts", .glo "_law_text", .glo "_law_odd", .glo "_law_told", .glo "law", .free "ValueError", .free "abs", .free "all", .free "bool", .free "int", .free "isinstance", .free "len", .free "list", .free "max", .free "min", .free "ord", .free "range", .free "repr", .free "str", .free "tuple", .glo "ALONE", .glo "BETWEEN", .int "DEEPEST" (8), .glo "LEAVING", .glo "OPERATORS", .str "ROWS" "lda", .glo "SHAPES", .glo "TESTS", .glo "WORDS", .glo "NoExpression", .glo "NoText", .glo "TriedError", .exc "NoExpression", .exm "NoExpression" "NoExpression" true, .exm "NoExpression" "NoText" false, .exm "NoExpression" "TriedError" true]
def ks_BETWEEN : List Str := ["or", "and", "to"]
def ks_SHAPES : List Str := ("nothing" :: "number" :: "text" :: "name" :: "list" :: "op" :: "test" :: "or" :: "and" :: "first" :: "no" :: "if" :: "most" :: "again" :: "to" :: "items" :: "give" :: "lend" :: "every" :: "while" :: "do" :: "call" :: "back" :: "out" :: "fall" :: "keep" :: "ask" :: "anew" :: "scan" :: "move" :: "tab" :: "find" :: "reach" :: "many" :: "match" :: "here" :: "put" :: "take" :: "size" :: "at" :: "place" :: "say" :: [])
def tsD : List He.Tab := [(fun K => He.ga K "BETWEEN", ks_BETWEEN), (fun K => He.ga K "SHAPES", ks_SHAPES)]
def exD (K : PySem.W.Frag) : Bool := true && He.tupB K "ALONE" t_ALONE && He.valsB K (He.ga K "BETWEEN") t_BETWEEN && He.tupB K "LEAVING" t_LEAVING && He.tupB K "OPERATORS" t_OPERATORS && He.valsB K (He.ga K "SHAPES") t_SHAPES && He.tupB K "TESTS" t_TESTS && He.tupB K "WORDS" t_WORDS && kiB K (.ref (He.ga K "TriedError")) t_itl_TriedError && kiB K (.type "ValueError") t_itl_ValueError
def names0 : List Str := ("TriedError" :: "NoExpression" :: "NoText" :: "WORDS" :: "OPERATORS" :: "TESTS" :: "LEAVING" :: "DEEPEST" :: "SHAPES" :: "ROWS" :: "is_row" :: "is_integer" :: "is_name" :: "is_character" :: "is_written" :: "is_word" :: "is_plain" :: "is_row_of_parts" :: "is_within" :: "is_expression" :: "BETWEEN" :: "ALONE" :: "joined" :: "pair" :: "written" :: "bracketed" :: "expression_text" :: "_law_bag" :: "_law_mixed" :: "_law_draw" :: [])
def names1 : List Str := ("_law_words" :: "_law_letters" :: "_law_name" :: "_law_written" :: "_law_shapes" :: "_law_leaf" :: "_law_item" :: "_law_expression" :: "_law_is_name" :: "_law_is_text" :: "_law_is_item" :: "_law_is" :: "_law_parts" :: "_law_walk" :: "_law_with" :: "_law_texts" :: "_law_text" :: "_law_odd" :: "_law_told" :: [])
def names : List Str := names0 ++ names1
abbrev RowR : PySem.W.OpenRow := PySem.W.OpenLaw.row PySem.Challenge.rw_triedagain_k05_expressions_written
abbrev hk0 : PySem.W.Hook := He.hookX 6 faD fnD tsD [] exD
def ob0 (s : PySem.W.SharedT) : He.AlX := He.obsX 6 faD fnD tsD [] exD (HandSHeadRun.getT s)
theorem ob0_eq (s : PySem.W.SharedT) : ob0 s = hk0.obs s.abs := He.obsX_eq (HandSHeadRun.getT_eq s)
abbrev hk : PySem.W.Hook := hookS hk0
def ob (s : PySem.W.SharedT) : He.AlX × Bool := (ob0 s, sysB (HandSHeadRun.getT s))
theorem ob_eq (s : PySem.W.SharedT) : ob s = hk.obs s.abs := obS_eq (H0 := hk0) (ob := ob0) ob0_eq s
abbrev RunP (w : World) : Prop := HandSHeadRun.RunEq RowR (PySem.W.view RowR.prog [54]) hk ob 30000 names w
theorem runF (w : World) : RunP (w.withFollow "special-get-raises" false) := by intro os; kernel_rfl
theorem runT (w : World) : RunP (w.withFollow "special-get-raises" true) := by intro os; kernel_rfl
theorem run (w : World) : HandSHeadRun.RunEq RowR (PySem.W.view RowR.prog [54]) hk ob 30000 names w :=
  PySem.W.byRow2 "special-get-raises" (P := RunP) runF runT w
end Sh
set_option Elab.async false
set_option linter.all false
/-! ShM: the plain model: values, store, results, combinators (core Lean and the library's Str, Key). -/
namespace Sh
open PySem L2

/-- a value: tuples, and lists and dicts that are never written again, by value; scr: the script; other lists, dicts and objects by reference to the store -/
inductive W where
  | non | bl (b : Bool) | int (i : Int) | str (x : Str) | tup (xs : List W) | ref (a : Nat) | ty (n : String) | glo (x : Str) | lst (xs : List W) | dic (ks : List Key) (ws : List W) | scr (ns : List Int)
instance : Inhabited W := ⟨.non⟩

/-- an object of the store: a list; a dict; an instance -/
inductive Ob where
  | lst (xs : List W) | dic (kvs : List (Key × W)) | ins (c : Str) (fs : List (Str × W))
abbrev Store := List Ob
structure Exn where
  cls : Str
  fs : List (Str × W)

/-- what comes out: a value and the store, an exception, or nothing that the model knows -/
inductive R (α : Type) where
  | ok (a : α) (S : Store) | exc (x : Exn) (S : Store) | bad
def R.bind {α β : Type} (r : R α) (k : α → Store → R β) : R β := match r with
  | .ok a S => k a S
  | .exc x S => .exc x S
  | .bad => .bad
@[simp] theorem R.bind_ok {α β : Type} (a : α) (S : Store) (k : α → Store → R β) : (R.ok a S).bind k = k a S := rfl
@[simp] theorem R.bind_exc {α β : Type} (x : Exn) (S : Store) (k : α → Store → R β) : (R.exc x S : R α).bind k = .exc x S := rfl
@[simp] theorem R.bind_bad {α β : Type} (k : α → Store → R β) : (R.bad : R α).bind k = .bad := rfl

/-- a frame's names by slot -/
abbrev En := List (Option W)
abbrev EM := En → Store → R W
abbrev TM := En → Store → R Bool
abbrev AM := En → Store → R (List W)
/-- a primitive: none is what the model does not know (or refuses) -/
abbrev P1 := W → Store → Option (W × Store)
abbrev P2 := W → W → Store → Option (W × Store)
abbrev PN := List W → Store → Option (W × Store)
def lift (o : Option (W × Store)) : R W := match o with
  | some (w, S) => .ok w S
  | none => .bad
@[simp] theorem lift_some (w : W) (S : Store) : lift (some (w, S)) = .ok w S := rfl
@[simp] theorem lift_none : lift none = .bad := rfl

/-! ### expressions -/
def eVar (i : Nat) : EM := fun e S => match e[i]? with
  | some (some w) => .ok w S
  | _ => .bad
def eC (w : W) : EM := fun _ S => .ok w S
def e1 (f : P1) (a : EM) : EM := fun e S => (a e S).bind fun x S1 => lift (f x S1)
def e2 (f : P2) (a b : EM) : EM := fun e S => (a e S).bind fun x S1 => (b e S1).bind fun y S2 => lift (f x y S2)
def evs : List EM → AM
  | [], _, S => .ok [] S
  | a :: as, e, S => (a e S).bind fun x S1 => (evs as e S1).bind fun xs S2 => .ok (x :: xs) S2
def eN (f : PN) (as : List EM) : EM := fun e S => (evs as e S).bind fun xs S1 => lift (f xs S1)
/-- a call of the text's own -/
def eCall (C : List W → Store → R W) (as : List EM) : EM := fun e S => (evs as e S).bind fun xs S1 => C xs S1
def eIf (c : TM) (a b : EM) : EM := fun e S => (c e S).bind fun k S1 => if k = true then a e S1 else b e S1

/-! ### truth -/
def truW (w : W) (S : Store) : Option Bool := match w with
  | .non => some false
  | .bl b => some b
  | .int i => some (i != 0)
  | .str x => if x.length ≤ sizeLine then some ((x.length : Int) != 0) else none
  | .tup xs => some (!xs.isEmpty)
  | .lst xs => some (!xs.isEmpty)
  | .dic ks _ => some (!ks.isEmpty)
  | .scr ns => some (!ns.isEmpty)
  | .ref a => match S[a]? with
    | some (.lst xs) => some (!xs.isEmpty)
    | some (.dic kvs) => some (!kvs.isEmpty)
    | _ => none
  | _ => none
def liftB (o : Option Bool) (S : Store) : R Bool := match o with
  | some b => .ok b S
  | none => .bad
@[simp] theorem liftB_some (b : Bool) (S : Store) : liftB (some b) S = .ok b S := rfl
@[simp] theorem liftB_none (S : Store) : liftB none S = .bad := rfl
/-- by a value's truth -/
def tE (a : EM) : TM := fun e S => (a e S).bind fun w S1 => liftB (truW w S1) S1
def bolW : W → Option Bool
  | .bl b => some b
  | _ => none
/-- by a bool (comparisons) -/
def tB (a : EM) : TM := fun e S => (a e S).bind fun w S1 => liftB (bolW w) S1
def tNot (t : TM) : TM := fun e S => (t e S).bind fun b S1 => .ok (!b) S1
def tAnd (t u : TM) : TM := fun e S => (t e S).bind fun b S1 => if b = true then u e S1 else .ok false S1
def tOr (t u : TM) : TM := fun e S => (t e S).bind fun b S1 => if b = true then .ok true S1 else u e S1
/-- and, or, not as values -/
def eAnd (a b : EM) : EM := fun e S => (a e S).bind fun x S1 => (liftB (truW x S1) S1).bind fun k S1 => if k = true then b e S1 else .ok x S1
def eOr (a b : EM) : EM := fun e S => (a e S).bind fun x S1 => (liftB (truW x S1) S1).bind fun k S1 => if k = true then .ok x S1 else b e S1
def eNot (a : EM) : EM := fun e S => (a e S).bind fun x S1 => (liftB (truW x S1) S1).bind fun k S1 => .ok (.bl (!k)) S1

/-! ### statements -/
inductive RS where
  | nx (e : En) (S : Store) | ret (w : W) (S : Store) | brk (e : En) (S : Store) | cnt (e : En) (S : Store) | exc (x : Exn) (e : En) (S : Store) | bad
abbrev SM := En → Store → RS
/-- behind an expression -/
def R.thn {α : Type} (r : R α) (e : En) (k : α → Store → RS) : RS := match r with
  | .ok a S => k a S
  | .exc x S => .exc x e S
  | .bad => .bad
@[simp] theorem R.thn_ok {α : Type} (a : α) (S : Store) (e : En) (k : α → Store → RS) : (R.ok a S).thn e k = k a S := rfl
@[simp] theorem R.thn_exc {α : Type} (x : Exn) (S : Store) (e : En) (k : α → Store → RS) : (R.exc x S : R α).thn e k = .exc x e S := rfl
@[simp] theorem R.thn_bad {α : Type} (e : En) (k : α → Store → RS) : (R.bad : R α).thn e k = .bad := rfl
/-- behind a statement -/
def RS.seq (r : RS) (k : SM) : RS := match r with
  | .nx e S => k e S
  | r => r
@[simp] theorem RS.seq_nx (e : En) (S : Store) (k : SM) : (RS.nx e S).seq k = k e S := rfl
@[simp] theorem RS.seq_ret (w : W) (S : Store) (k : SM) : (RS.ret w S).seq k = .ret w S := rfl
@[simp] theorem RS.seq_brk (e : En) (S : Store) (k : SM) : (RS.brk e S).seq k = .brk e S := rfl
@[simp] theorem RS.seq_cnt (e : En) (S : Store) (k : SM) : (RS.cnt e S).seq k = .cnt e S := rfl
@[simp] theorem RS.seq_exc (x : Exn) (e : En) (S : Store) (k : SM) : (RS.exc x e S).seq k = .exc x e S := rfl
@[simp] theorem RS.seq_bad (k : SM) : RS.bad.seq k = .bad := rfl
def sNil : SM := fun e S => .nx e S
def sSeq (a b : SM) : SM := fun e S => (a e S).seq b
def sIf (c : TM) (a b : SM) : SM := fun e S => (c e S).thn e fun k S1 => if k = true then a e S1 else b e S1
def sRet (a : EM) : SM := fun e S => (a e S).thn e fun w S1 => .ret w S1
def sRetN : SM := fun _ S => .ret .non S
def sExpr (a : EM) : SM := fun e S => (a e S).thn e fun _ S1 => .nx e S1
def sBrk : SM := fun e S => .brk e S
def sCnt : SM := fun e S => .cnt e S
/-- what the model does not know -/
def sBad : SM := fun _ _ => .bad
/-- a target: the value goes to the frame, the store -/
abbrev GM := W → En → Store → Option (En × Store)
def gVar (i : Nat) : GM := fun w e S => some (e.set i (some w), S)
def RSof (o : Option (En × Store)) : RS := match o with
  | some (e, S) => .nx e S
  | none => .bad
@[simp] theorem RSof_some (e : En) (S : Store) : RSof (some (e, S)) = .nx e S := rfl
@[simp] theorem RSof_none : RSof none = .bad := rfl
def sSet (i : Nat) (a : EM) : SM := fun e S => (a e S).thn e fun w S1 => .nx (e.set i (some w)) S1
def sAsg (g : GM) (a : EM) : SM := fun e S => (a e S).thn e fun w S1 => RSof (g w e S1)
/-- the names at these slots take a row's items in order -/
def setVars : List Nat → List W → En → En
  | i :: is, w :: ws, e => setVars is ws (e.set i (some w))
  | _, _, e => e
/-- (a, b, ..) = a tuple | a list of that length -/
def gVars (is : List Nat) : GM := fun w e S => match w with
  | .tup ws => if ws.length = is.length then some (setVars is ws e, S) else none
  | _ => none
/-- a, b = x, y -/
def sPar (i j : Nat) (a b : EM) : SM := fun e S => (a e S).thn e fun x S1 => (b e S1).thn e fun y S2 => .nx ((e.set i (some x)).set j (some y)) S2
def sAug (i : Nat) (f : P2) (a : EM) : SM := fun e S => match e[i]? with
  | some (some x) => (a e S).thn e fun y S1 => (lift (f x y S1)).thn e fun z S2 => .nx (e.set i (some z)) S2
  | _ => .bad
/-- o[i] = e: e first -/
abbrev P3 := W → W → W → Store → Option Store
def sSetIx (f : P3) (o i a : EM) : SM := fun e S => (a e S).thn e fun v S1 => (o e S1).thn e fun x S2 => (i e S2).thn e fun y S3 => match f x y v S3 with
  | some S4 => .nx e S4
  | none => .bad

/-! ### loops -/
/-- what is walked: at a turn, none: unknown; some none: the end; some (some w): w -/
abbrev ItM := Nat → Store → Option (Option W)
def itL (a : Nat) : ItM := fun i S => match S[a]? with
  | some (.lst xs) => some xs[i]?
  | _ => none
def itT (ws : List W) : ItM := fun i _ => some ws[i]?
def itR (lo : Int) (n : Nat) : ItM := fun i _ => some (if i < n then some (.int (lo + i)) else none)
/-- how a loop begins: the iterator over a value -/
abbrev IM := En → Store → R ItM
def chrW (c : Nat) : W := .str ⟨#[c]⟩
def iterW (w : W) (S : Store) : Option ItM := match w with
  | .tup ws => some (itT ws)
  | .str x => some (itT (x.cps.toList.map chrW))
  | .lst ws => some (itT ws)
  | .scr ns => some (itT (ns.map W.int))
  | .ref a => match S[a]? with
    | some (.lst _) => some (itL a)
    | _ => none
  | _ => none
def iE (a : EM) : IM := fun e S => (a e S).bind fun w S1 => match iterW w S1 with
  | some J => .ok J S1
  | none => .bad
/-- (a stuck term: the kernel peels a literal unarily in Int's order) -/
theorem big_ex : ∃ i : Int, i = 4611686018427387904 := ⟨_, rfl⟩
noncomputable def big : Int := big_ex.choose
theorem big_def : big = 4611686018427387904 := big_ex.choose_spec
noncomputable def rngJ (m n : Int) (S : Store) : R ItM := if -big ≤ m ∧ m < big ∧ -big ≤ n ∧ n < big then .ok (itR m (n - m).toNat) S else .bad
noncomputable def iRange1 (a : EM) : IM := fun e S => (a e S).bind fun w S1 => match w with
  | .int n => rngJ 0 n S1
  | _ => .bad
noncomputable def iRange2 (a b : EM) : IM := fun e S => (a e S).bind fun w S1 => (b e S1).bind fun v S2 => match w, v with
  | .int m, .int n => rngJ m n S2
  | _, _ => .bad
def forN (J : ItM) (g : GM) (b : SM) : Nat → Nat → SM
  | 0, _, _, _ => .bad
  | n + 1, i, e, S => match J i S with
    | none => .bad
    | some none => .nx e S
    | some (some w) => match g w e S with
      | none => .bad
      | some (e1, S1) => match b e1 S1 with
        | .nx e2 S2 => forN J g b n (i + 1) e2 S2
        | .cnt e2 S2 => forN J g b n (i + 1) e2 S2
        | .brk e2 S2 => .nx e2 S2
        | r => r
/-- more turns than any loop has -/
theorem fuel_ex : ∃ n : Nat, 33554432 ≤ n := ⟨_, Nat.le_refl _⟩
/-- (a stuck term: the kernel shall not count it) -/
noncomputable def fuel : Nat := fuel_ex.choose
theorem fuel_ge : 33554432 ≤ fuel := fuel_ex.choose_spec
noncomputable def sFor (it : IM) (g : GM) (b : SM) : SM := fun e S => (it e S).thn e fun J S1 => forN J g b fuel 0 e S1
def whileN (c : TM) (b : SM) : Nat → SM
  | 0, _, _ => .bad
  | n + 1, e, S => match c e S with
    | .bad => .bad
    | .exc x S1 => .exc x e S1
    | .ok k S1 => if k = true then match b e S1 with
        | .nx e2 S2 => whileN c b n e2 S2
        | .cnt e2 S2 => whileN c b n e2 S2
        | .brk e2 S2 => .nx e2 S2
        | r => r
      else .nx e S1
noncomputable def sWhile (c : TM) (b : SM) : SM := whileN c b fuel
/-- a list comprehension of one clause; own: the slots of its own names -/
def wipeE (e : En) : List Nat → En
  | [] => e
  | v :: vs => (wipeE e vs).set v none
def lcN (J : ItM) (g : GM) (t : TM) (a : EM) (e0 : En) : Nat → Nat → List W → Store → R (List W)
  | 0, _, _, _ => .bad
  | n + 1, i, acc, S => match J i S with
    | none => .bad
    | some none => .ok acc S
    | some (some w) => match g w e0 S with
      | none => .bad
      | some (e1, S1) => (t e1 S1).bind fun k S2 => if k = true then (a e1 S2).bind fun x S3 => if acc.length < sizeLine then lcN J g t a e0 n (i + 1) (acc ++ [x]) S3 else .bad
        else lcN J g t a e0 n (i + 1) acc S2
def tYesM : TM := fun _ S => .ok true S
/-- an exception never leaves a comprehension in this model -/
def R.noexc {α : Type} (r : R α) : R α := match r with
  | .exc _ _ => .bad
  | r => r
/-- a new list: the store's own (m), or a value -/
def mkL (m : Bool) (xs : List W) (S : Store) : W × Store := if m = true then (.ref S.length, S ++ [.lst xs]) else (.lst xs, S)
@[simp] theorem mkL_t (xs : List W) (S : Store) : mkL true xs S = (.ref S.length, S ++ [.lst xs]) := rfl
@[simp] theorem mkL_f (xs : List W) (S : Store) : mkL false xs S = (.lst xs, S) := rfl
noncomputable def eLc (m : Bool) (it : IM) (own : List Nat) (g : GM) (t : TM) (a : EM) : EM := fun e S => (it e S).bind fun J S1 =>
  (lcN J g t a (wipeE e own) fuel 0 [] S1).noexc.bind fun xs S2 => .ok (mkL m xs S2).1 (mkL m xs S2).2

/-! ### a def -/
/-- the frame at the entry: n slots, the arguments first -/
def startE (n : Nat) (ws : List W) : En := ws.map some ++ List.replicate (n - ws.length) none
mutual
/-- no reference at or above n -/
def lowW (n : Nat) : W → Bool
  | .ref a => decide (a < n)
  | .tup ws => lowWs n ws
  | .lst ws => lowWs n ws
  | .dic _ ws => lowWs n ws
  | .non => true
  | .bl _ => true
  | .int _ => true
  | .str _ => true
  | .ty _ => true
  | .glo _ => true
  | .scr _ => true
def lowWs (n : Nat) : List W → Bool
  | [] => true
  | w :: ws => lowW n w && lowWs n ws
end
mutual
def mapR (f : Nat → Option W) : W → Option W
  | .ref a => f a
  | .tup ws => (mapRs f ws).map .tup
  | .lst ws => (mapRs f ws).map .lst
  | .dic ks ws => (mapRs f ws).map (.dic ks)
  | .non => some .non
  | .bl b => some (.bl b)
  | .int i => some (.int i)
  | .str x => some (.str x)
  | .ty n => some (.ty n)
  | .glo x => some (.glo x)
  | .scr ns => some (.scr ns)
def mapRs (f : Nat → Option W) : List W → Option (List W)
  | [] => some []
  | w :: ws => match mapR f w, mapRs f ws with
    | some a, some b => some (a :: b)
    | _, _ => none
end
def fzL (f : W → Option W) : List W → Option (List W)
  | [] => some []
  | w :: ws => match f w, fzL f ws with
    | some a, some b => some (a :: b)
    | _, _ => none
/-- the lists and dicts that were made since become values -/
def fzD (n : Nat) (S : Store) : Nat → W → Option W
  | 0, w => if lowW n w = true then some w else none
  | d + 1, w => mapR (fun a => if a < n then some (.ref a) else match S[a]? with
    | some (.lst ws) => (fzL (fzD n S d) ws).map .lst
    | some (.dic kvs) => (fzL (fzD n S d) (kvs.map (·.2))).map (.dic (kvs.map (·.1)))
    | _ => none) w
def lowO (n : Nat) : Ob → Bool
  | .lst ws => lowWs n ws
  | .dic kvs => lowWs n (kvs.map (·.2))
  | .ins _ fs => lowWs n (fs.map (·.2))
/-- what stood at the entry names nothing that is newer -/
def okS (n : Nat) (S : Store) : Bool := (S.take n).all (lowO n)
/-- a def's end: its result is frozen, the store is cut back -/
def cutR (S : Store) (w : W) (S1 : Store) : R W := match fzD S.length S1 4 w with
  | some w' => if okS S.length S1 = true then .ok w' (S1.take S.length) else .bad
  | none => .bad
def cutX (S : Store) (x : Exn) (S1 : Store) : R W := if (lowWs S.length (x.fs.map (·.2)) && okS S.length S1) = true then .exc x (S1.take S.length) else .bad
def runDef (ps n : Nat) (b : SM) (ws : List W) (S : Store) : R W := if ws.length = ps then match b (startE n ws) S with
    | .nx _ S1 => cutR S .non S1
    | .ret w S1 => cutR S w S1
    | .exc x _ S1 => cutX S x S1
    | _ => .bad
  else .bad
/-- .. without -/
def runDefO (ps n : Nat) (b : SM) (ws : List W) (S : Store) : R W := if ws.length = ps then match b (startE n ws) S with
    | .nx _ S1 => .ok .non S1
    | .ret w S1 => .ok w S1
    | .exc x _ S1 => .exc x S1
    | _ => .bad
  else .bad
end Sh

set_option Elab.async false
set_option linter.all false
set_option maxRecDepth 100000
set_option maxHeartbeats 2000000
/-! ShR: the relation between the model and HandS's abstract heap; readings by the model; the rules' frame. -/
namespace Sh
open PySem PySem.Spec PyProof.Rows L2

/-- the store's addresses in order; addresses that a comprehension holds -/
structure Fi where
  t : List Addr
  h : List Addr
section
variable (K : PySem.W.Frag) (mg : Str → Option Value)
/-- a list that is known and never written -/
def SqF (H : Hp) (a : Addr) (xs : List V) : Prop := (∃ o, H a = some (.frz o (.lst xs))) ∨
    ∃ (o : Obj) (its : Array Value) (n : Nat), K.lookup a = some o ∧ o.cls = .type "list" ∧ o.dict = none ∧ o.data = .seq its n ∧ its.size ≤ sizeLine ∧ Vals xs its.toList
/-- a tuple: laid in the run, or the module's own -/
def SqU (H : Hp) (a : Addr) (xs : List V) : Prop := H a = some (.tup xs) ∨
    ∃ (o : Obj) (its : Array Value) (n : Nat), K.lookup a = some o ∧ o.cls = .type "tuple" ∧ o.data = .seq its n ∧ its.size ≤ sizeLine ∧ Vals xs its.toList
/-- beside the store -/
def Out (φ : Fi) (p : Addr) : Prop := p ∉ φ.t ∧ p ∉ φ.h
/-- a list that is never written again -/
def SqW (H : Hp) (φ : Fi) (p : Addr) (xs : List V) : Prop := Out φ p ∧ H p = some (.lst xs)
mutual
def VR (H : Hp) (φ : Fi) : W → V → Prop
  | .non, v => v = .non
  | .bl b, v => v = .bl b
  | .int i, v => v = .int i
  | .str x, v => v = .str x
  | .tup ws, v => ∃ p vs, v = .ref p ∧ SqU K H p vs ∧ VRs H φ ws vs
  | .ref a, v => ∃ p, v = .ref p ∧ φ.t[a]? = some p
  | .ty n, v => v = .ty n
  | .glo x, v => ∃ a, mg x = some (.ref a) ∧ v = .ref a
  | .lst ws, v => ∃ p vs, v = .ref p ∧ SqW H φ p vs ∧ VRs H φ ws vs
  | .dic ks ws, v => ∃ p us, v = .ref p ∧ Out φ p ∧ H p = some (.dK us) ∧ us.map (·.1) = ks ∧ VRs H φ ws (us.map (·.2))
  | .scr ns, v => ∃ p, v = .ref p ∧ SqF K H p (ns.map V.int)
def VRs (H : Hp) (φ : Fi) : List W → List V → Prop
  | [], vs => vs = []
  | w :: ws, vs => ∃ v r, vs = v :: r ∧ VR H φ w v ∧ VRs H φ ws r
end
/-- dict entries, fields: the same names in the same order, related values -/
def KVR {κ : Type} (H : Hp) (φ : Fi) (kvs : List (κ × W)) (us : List (κ × V)) : Prop :=
  kvs.map (·.1) = us.map (·.1) ∧ VRs K mg H φ (kvs.map (·.2)) (us.map (·.2))
def OR (H : Hp) (φ : Fi) : Ob → Addr → Prop
  | .lst ws, p => ∃ vs, H p = some (.lst vs) ∧ VRs K mg H φ ws vs
  | .dic kvs, p => ∃ us, H p = some (.dK us) ∧ KVR K mg H φ kvs us
  | .ins c fs, p => ∃ C dx us, mg c = some (.ref C) ∧ H p = some (.ins C dx us) ∧ KVR K mg H φ fs us
/-- the store is the heap's tracked part that the model knows -/
structure SR (H : Hp) (φ : Fi) (S : Store) : Prop where
  len : φ.t.length = S.length
  nd : φ.t.Nodup
  at_ : ∀ (a : Nat) ob p, S[a]? = some ob → φ.t[a]? = some p → OR K mg H φ ob p
  hd : ∀ D ∈ φ.h, D ∉ φ.t ∧ ∃ o, H D = some o
end

/-- what every step keeps -/
structure Ext (H H' : Hp) (φ φ' : Fi) : Prop where
  pre : ∃ l, φ'.t = φ.t ++ l
  hid : φ'.h = φ.h
  fr : ∀ p o, H p = some o → p ∉ φ.t → H' p = some o
  new : ∀ p, p ∈ φ'.t → p ∉ φ.t → H p = none
  tup : ∀ p xs, H p = some (.tup xs) → H' p = some (.tup xs)
  frz : ∀ p o u, H p = some (.frz o u) → H' p = some (.frz o u)

section
variable {K : PySem.W.Frag} {mg : Str → Option Value} {H H' H'' : Hp} {φ φ' φ'' : Fi} {S S' : Store}
theorem Ext.refl : Ext H H φ φ := ⟨⟨[], by simp⟩, rfl, fun _ _ h _ => h, fun _ h n => absurd h n, fun _ _ h => h, fun _ _ _ h => h⟩
theorem Ext.trans (a : Ext H H' φ φ') (b : Ext H' H'' φ' φ'') : Ext H H'' φ φ'' := by
  obtain ⟨l, e⟩ := a.pre
  obtain ⟨l', e'⟩ := b.pre
  refine ⟨⟨l ++ l', by rw [e', e, List.append_assoc]⟩, b.hid.trans a.hid, fun p o h n => ?_, fun p h n => ?_, fun p xs h => b.tup p xs (a.tup p xs h), fun p o u h => b.frz p o u (a.frz p o u h)⟩
  · refine b.fr p o (a.fr p o h n) fun z => ?_
    have := a.new p z n
    rw [h] at this; cases this
  · by_cases hp : p ∈ φ'.t
    · exact a.new p hp n
    · have z := b.new p h hp
      cases q : H p with
      | none => rfl
      | some o => rw [a.fr p o q n] at z; cases z
theorem Ext.get (x : Ext H H' φ φ') {a : Nat} {p : Addr} (h : φ.t[a]? = some p) : φ'.t[a]? = some p := by
  obtain ⟨l, e⟩ := x.pre
  rw [e, List.getElem?_append_left (List.getElem?_eq_some_iff.mp h).1]
  exact h
theorem Ext.out (x : Ext H H' φ φ') {p : Addr} {o : HO} (h : Out φ p) (e : H p = some o) : H' p = some o ∧ Out φ' p := by
  refine ⟨x.fr p o e h.1, fun z => ?_, by rw [x.hid]; exact h.2⟩
  have := x.new p z h.1
  rw [e] at this; cases this
/-- what values need to be kept -/
structure Mon (H H' : Hp) (φ φ' : Fi) : Prop where
  pre : ∃ l, φ'.t = φ.t ++ l
  out : ∀ p o, H p = some o → Out φ p → H' p = some o ∧ Out φ' p
  tup : ∀ p xs, H p = some (.tup xs) → H' p = some (.tup xs)
  frz : ∀ p o u, H p = some (.frz o u) → H' p = some (.frz o u)
theorem Ext.mon (x : Ext H H' φ φ') : Mon H H' φ φ' := ⟨x.pre, fun p o h n => x.out n h, x.tup, x.frz⟩
theorem Mon.get (x : Mon H H' φ φ') {a : Nat} {p : Addr} (h : φ.t[a]? = some p) : φ'.t[a]? = some p := by
  obtain ⟨l, e⟩ := x.pre
  rw [e, List.getElem?_append_left (List.getElem?_eq_some_iff.mp h).1]
  exact h
theorem Mon.rdT (x : Mon H H' φ φ') {p : Addr} {vs : List V} (h : SqU K H p vs) : SqU K H' p vs := by
  rcases h with h | h
  · exact .inl (x.tup _ _ h)
  · exact .inr h
theorem Mon.rdF (x : Mon H H' φ φ') {p : Addr} {vs : List V} (h : SqF K H p vs) : SqF K H' p vs := by
  rcases h with ⟨o, h⟩ | h
  · exact .inl ⟨o, x.frz _ _ _ h⟩
  · exact .inr h
theorem Mon.rdW (x : Mon H H' φ φ') {p : Addr} {vs : List V} (h : SqW H φ p vs) : SqW H' φ' p vs := by
  obtain ⟨n, h⟩ := h
  obtain ⟨a, b⟩ := x.out p _ h n
  exact ⟨b, a⟩
theorem Ext.rdT (x : Ext H H' φ φ') {p : Addr} {vs : List V} (h : SqU K H p vs) : SqU K H' p vs := x.mon.rdT h
theorem Ext.rdW (x : Ext H H' φ φ') {p : Addr} {vs : List V} (h : SqW H φ p vs) : SqW H' φ' p vs := x.mon.rdW h
theorem SqU.sq {p : Addr} {vs : List V} (h : SqU K H p vs) : SqT K H p vs := by
  rcases h with h | h
  · exact .inl (.inl h)
  · exact .inr h
theorem Ext.rdF (x : Ext H H' φ φ') {p : Addr} {vs : List V} (h : SqF K H p vs) : SqF K H' p vs := x.mon.rdF h
theorem SqF.sq {p : Addr} {vs : List V} (h : SqF K H p vs) : SqL K H p vs := by
  rcases h with ⟨o, h⟩ | h
  · exact .inl (.inr ⟨o, h⟩)
  · exact .inr h
theorem SqW.sq {p : Addr} {vs : List V} (h : SqW H φ p vs) : SqL K H p vs := .inl (.inl h.2)
mutual
theorem VR.monoM (x : Mon H H' φ φ') : ∀ {w : W} {v : V}, VR K mg H φ w v → VR K mg H' φ' w v
  | .non, v, h => h
  | .bl b, v, h => h
  | .int i, v, h => h
  | .str s, v, h => h
  | .tup ws, v, h => by
    simp only [VR] at h ⊢
    obtain ⟨p, vs, e, q, r⟩ := h
    exact ⟨p, vs, e, x.rdT q, VRs.monoM x r⟩
  | .ref a, v, h => by
    simp only [VR] at h ⊢
    obtain ⟨p, e, q⟩ := h
    exact ⟨p, e, x.get q⟩
  | .ty n, v, h => h
  | .glo y, v, h => h
  | .lst ws, v, h => by
    simp only [VR] at h ⊢
    obtain ⟨p, vs, e, q, r⟩ := h
    exact ⟨p, vs, e, x.rdW q, VRs.monoM x r⟩
  | .dic ks ws, v, h => by
    simp only [VR] at h ⊢
    obtain ⟨p, us, e, n, q, k, r⟩ := h
    obtain ⟨a, b⟩ := x.out p _ q n
    exact ⟨p, us, e, b, a, k, VRs.monoM x r⟩
  | .scr ns, v, h => by
    simp only [VR] at h ⊢
    obtain ⟨p, e, q⟩ := h
    exact ⟨p, e, x.rdF q⟩
theorem VRs.monoM (x : Mon H H' φ φ') : ∀ {ws : List W} {vs : List V}, VRs K mg H φ ws vs → VRs K mg H' φ' ws vs
  | [], vs, h => h
  | w :: ws, vs, h => by
    simp only [VRs] at h ⊢
    obtain ⟨v, r, e, a, b⟩ := h
    exact ⟨v, r, e, VR.monoM x a, VRs.monoM x b⟩
end
theorem VR.mono (x : Ext H H' φ φ') {w : W} {v : V} (h : VR K mg H φ w v) : VR K mg H' φ' w v := h.monoM x.mon
theorem VRs.mono (x : Ext H H' φ φ') {ws : List W} {vs : List V} (h : VRs K mg H φ ws vs) : VRs K mg H' φ' ws vs := h.monoM x.mon
theorem KVR.mono {κ : Type} (x : Ext H H' φ φ') {kvs : List (κ × W)} {us : List (κ × V)} (h : KVR K mg H φ kvs us) : KVR K mg H' φ' kvs us := ⟨h.1, h.2.mono x⟩
theorem KVR.monoM {κ : Type} (x : Mon H H' φ φ') {kvs : List (κ × W)} {us : List (κ × V)} (h : KVR K mg H φ kvs us) : KVR K mg H' φ' kvs us := ⟨h.1, h.2.monoM x⟩
theorem VRs.length : ∀ {ws : List W} {vs : List V}, VRs K mg H φ ws vs → ws.length = vs.length
  | [], vs, h => by simp only [VRs] at h; rw [h]; rfl
  | w :: ws, vs, h => by
    simp only [VRs] at h
    obtain ⟨v, r, rfl, _, b⟩ := h
    simp only [List.length_cons, b.length]
theorem VRs.get : ∀ {ws : List W} {vs : List V} {i : Nat} {w : W}, VRs K mg H φ ws vs → ws[i]? = some w → ∃ v, vs[i]? = some v ∧ VR K mg H φ w v
  | [], vs, i, w, h, e => by simp at e
  | w :: ws, vs, 0, w', h, e => by
    simp only [VRs] at h
    obtain ⟨v, r, rfl, a, _⟩ := h
    simp at e; subst e
    exact ⟨v, rfl, a⟩
  | w :: ws, vs, i + 1, w', h, e => by
    simp only [VRs] at h
    obtain ⟨v, r, rfl, _, b⟩ := h
    simpa using b.get (i := i) (by simpa using e)
theorem VRs.none : ∀ {ws : List W} {vs : List V} {i : Nat}, VRs K mg H φ ws vs → ws[i]? = none → vs[i]? = none := fun {ws vs i} h e => by
  have := h.length
  have := List.getElem?_eq_none_iff.mp e
  exact List.getElem?_eq_none_iff.mpr (by omega)
theorem VRs.append : ∀ {ws ws' : List W} {vs vs' : List V}, VRs K mg H φ ws vs → VRs K mg H φ ws' vs' → VRs K mg H φ (ws ++ ws') (vs ++ vs')
  | [], ws', vs, vs', h, h' => by simp only [VRs] at h; subst h; exact h'
  | w :: ws, ws', vs, vs', h, h' => by
    simp only [VRs] at h
    obtain ⟨v, r, rfl, a, b⟩ := h
    show VRs K mg H φ (w :: (ws ++ ws')) (v :: (r ++ vs'))
    simp only [VRs]
    exact ⟨v, _, rfl, a, b.append h'⟩
theorem VRs.take : ∀ {ws : List W} {vs : List V} (n : Nat), VRs K mg H φ ws vs → VRs K mg H φ (ws.take n) (vs.take n)
  | ws, vs, 0, _ => by simp [VRs]
  | [], vs, n + 1, h => by simp only [VRs] at h; subst h; simp [VRs]
  | w :: ws, vs, n + 1, h => by
    simp only [VRs] at h
    obtain ⟨v, r, rfl, a, b⟩ := h
    show VRs K mg H φ (w :: ws.take n) (v :: r.take n)
    simp only [VRs]
    exact ⟨v, _, rfl, a, b.take n⟩
theorem VRs.drop : ∀ {ws : List W} {vs : List V} (n : Nat), VRs K mg H φ ws vs → VRs K mg H φ (ws.drop n) (vs.drop n)
  | ws, vs, 0, h => h
  | [], vs, n + 1, h => by simp only [VRs] at h; subst h; simp [VRs]
  | w :: ws, vs, n + 1, h => by
    simp only [VRs] at h
    obtain ⟨v, r, rfl, a, b⟩ := h
    exact b.drop n
theorem VRs.set {w : W} {v : V} (hv : VR K mg H φ w v) : ∀ {ws : List W} {vs : List V} (i : Nat), VRs K mg H φ ws vs → VRs K mg H φ (ws.set i w) (vs.set i v)
  | [], vs, i, h => by simp only [VRs] at h; subst h; simp [VRs]
  | w' :: ws, vs, 0, h => by
    simp only [VRs] at h
    obtain ⟨v', r, rfl, a, b⟩ := h
    show VRs K mg H φ (w :: ws) (v :: r)
    simp only [VRs]
    exact ⟨v, _, rfl, hv, b⟩
  | w' :: ws, vs, i + 1, h => by
    simp only [VRs] at h
    obtain ⟨v', r, rfl, a, b⟩ := h
    show VRs K mg H φ (w' :: ws.set i w) (v' :: r.set i v)
    simp only [VRs]
    exact ⟨v', _, rfl, a, b.set hv i⟩
theorem VRs.nil : VRs K mg H φ [] [] := by simp [VRs]
theorem VRs.cons {w : W} {ws : List W} {v : V} {vs : List V} (a : VR K mg H φ w v) (b : VRs K mg H φ ws vs) : VRs K mg H φ (w :: ws) (v :: vs) := by
  simp only [VRs]; exact ⟨v, vs, rfl, a, b⟩
theorem VRs.one {w : W} {v : V} (a : VR K mg H φ w v) : VRs K mg H φ [w] [v] := .cons a .nil
theorem VRs.ints : ∀ ns : List Int, VRs K mg H φ (ns.map W.int) (ns.map V.int)
  | [] => .nil
  | n :: ns => .cons (by simp [VR]) (VRs.ints ns)
theorem VRs.strs : ∀ ns : List Str, VRs K mg H φ (ns.map W.str) (ns.map V.str)
  | [] => .nil
  | n :: ns => .cons (by simp [VR]) (VRs.strs ns)

/-! ### the store under a step -/
theorem SR.lt (r : SR K mg H φ S) {a : Nat} {ob : Ob} (h : S[a]? = some ob) : ∃ p, φ.t[a]? = some p ∧ OR K mg H φ ob p := by
  have hl := (List.getElem?_eq_some_iff.mp h).1
  have e : φ.t[a]? = some (φ.t[a]'(by rw [r.len]; exact hl)) := List.getElem?_eq_getElem _
  exact ⟨_, e, r.at_ a ob _ h e⟩
theorem SR.ob (r : SR K mg H φ S) {a : Nat} {p : Addr} (h : φ.t[a]? = some p) : ∃ ob, S[a]? = some ob ∧ OR K mg H φ ob p := by
  have hl := (List.getElem?_eq_some_iff.mp h).1
  have e : S[a]? = some (S[a]'(by rw [← r.len]; exact hl)) := List.getElem?_eq_getElem _
  exact ⟨_, e, r.at_ a _ p e h⟩
/-- what may stand at an address of the store -/
def stO : HO → Bool
  | .lst _ => true
  | .dK _ => true
  | .ins _ _ _ => true
  | _ => false
theorem OR.ho {ob : Ob} {p : Addr} (h : OR K mg H φ ob p) : ∃ o, H p = some o ∧ stO o = true := by
  cases ob with
  | lst ws => obtain ⟨vs, e, _⟩ := h; exact ⟨_, e, rfl⟩
  | dic kvs => obtain ⟨us, e, _⟩ := h; exact ⟨_, e, rfl⟩
  | ins c fs => obtain ⟨C, dx, us, _, e, _⟩ := h; exact ⟨_, e, rfl⟩
theorem SR.ho (r : SR K mg H φ S) {p : Addr} (h : p ∈ φ.t) : ∃ o, H p = some o ∧ stO o = true := by
  obtain ⟨a, ha, e⟩ := List.mem_iff_getElem.mp h
  obtain ⟨ob, _, q⟩ := r.ob (a := a) (p := p) (by rw [← e]; exact List.getElem?_eq_getElem _)
  exact q.ho
theorem SR.notin (r : SR K mg H φ S) {p : Addr} (h : H p = none) : Out φ p := by
  refine ⟨fun hp => ?_, fun hp => ?_⟩
  · obtain ⟨o, e, _⟩ := r.ho hp
    rw [h] at e; cases e
  · obtain ⟨_, o, e⟩ := r.hd p hp
    rw [h] at e; cases e
theorem OR.monoM (x : Mon H H' φ φ') {ob : Ob} {p : Addr} (h : OR K mg H φ ob p) (e : H' p = H p) : OR K mg H' φ' ob p := by
  cases ob with
  | lst ws => obtain ⟨vs, q, r⟩ := h; exact ⟨vs, e.trans q, r.monoM x⟩
  | dic kvs => obtain ⟨us, q, r⟩ := h; exact ⟨us, e.trans q, r.monoM x⟩
  | ins c fs => obtain ⟨C, dx, us, m, q, r⟩ := h; exact ⟨C, dx, us, m, e.trans q, r.monoM x⟩
theorem OR.mono (x : Ext H H' φ φ') {ob : Ob} {p : Addr} (h : OR K mg H φ ob p) (e : H' p = H p) : OR K mg H' φ' ob p := h.monoM x.mon e
/-- what is hidden stays there -/
theorem SR.hidden (r : SR K mg H φ S) {H' : Hp} {φ' : Fi} (x : Ext H H' φ φ') : ∀ D ∈ φ'.h, D ∉ φ'.t ∧ ∃ o, H' D = some o := fun D hD => by
  rw [x.hid] at hD
  obtain ⟨n, o, e⟩ := r.hd D hD
  refine ⟨fun z => ?_, o, x.fr D o e n⟩
  have := x.new D z n
  rw [e] at this; cases this
/-- an address is hidden -/
def Fi.hide (φ : Fi) (D : Addr) : Fi := ⟨φ.t, D :: φ.h⟩
/-- a new object that a comprehension holds -/
theorem SR.hideNew (r : SR K mg H φ S) {D : Addr} {o : HO} (hD : H D = none) : Mon H (upd H D o) φ (φ.hide D) ∧ SR K mg (upd H D o) (φ.hide D) S := by
  have nD := r.notin hD
  have x : Mon H (upd H D o) φ (φ.hide D) := ⟨⟨[], by simp [Fi.hide]⟩, fun p u h n => by
      have hne : p ≠ D := ne_of_none h hD
      exact ⟨by rw [upd_ne hne]; exact h, n.1, fun z => by
        rcases List.mem_cons.mp z with e | e
        · exact hne e
        · exact n.2 e⟩,
    fun p xs h => by rw [upd_ne (ne_of_none h hD)]; exact h, fun p u v h => by rw [upd_ne (ne_of_none h hD)]; exact h⟩
  refine ⟨x, r.len, r.nd, fun a ob p h e => ?_, fun E hE => ?_⟩
  · refine (r.at_ a ob p h e).monoM x (upd_ne fun z => ?_)
    subst z
    exact nD.1 (List.mem_of_getElem? e)
  · rcases List.mem_cons.mp hE with e | e
    · subst e; exact ⟨nD.1, o, upd_same⟩
    · obtain ⟨n, u, q⟩ := r.hd E e
      exact ⟨n, u, by rw [upd_ne (ne_of_none q hD)]; exact q⟩
/-- what is hidden is changed -/
theorem SR.hideSet (r : SR K mg H (φ.hide D) S) {o o' : HO} (hD : H D = some o) (ho : stO o = true) : Mon H (upd H D o') (φ.hide D) (φ.hide D) ∧ SR K mg (upd H D o') (φ.hide D) S := by
  obtain ⟨nD, _⟩ := r.hd D List.mem_cons_self
  have x : Mon H (upd H D o') (φ.hide D) (φ.hide D) := ⟨⟨[], by simp⟩, fun p u h n => by
      have hne : p ≠ D := fun z => n.2 (by rw [z]; exact List.mem_cons_self)
      exact ⟨by rw [upd_ne hne]; exact h, n⟩,
    fun p xs h => by rw [upd_ne (fun z => by rw [z, hD] at h; cases h; cases ho)]; exact h, fun p u v h => by rw [upd_ne (fun z => by rw [z, hD] at h; cases h; cases ho)]; exact h⟩
  refine ⟨x, r.len, r.nd, fun a ob p h e => ?_, fun E hE => ?_⟩
  · refine (r.at_ a ob p h e).monoM x (upd_ne fun z => ?_)
    subst z
    exact nD (List.mem_of_getElem? e)
  · obtain ⟨n, u, q⟩ := r.hd E hE
    by_cases e : E = D
    · subst e; exact ⟨n, o', upd_same⟩
    · exact ⟨n, u, by rw [upd_ne e]; exact q⟩
/-- what was hidden is beside the store -/
theorem SR.show_ (r : SR K mg H (φ.hide D) S) : Mon H H (φ.hide D) φ ∧ SR K mg H φ S := by
  have x : Mon H H (φ.hide D) φ := ⟨⟨[], by simp [Fi.hide]⟩, fun p u h n => ⟨h, n.1, fun z => n.2 (List.mem_cons_of_mem _ z)⟩, fun _ _ h => h, fun _ _ _ h => h⟩
  exact ⟨x, r.len, r.nd, fun a ob p h e => (r.at_ a ob p h e).monoM x rfl, fun E hE => r.hd E (List.mem_cons_of_mem _ hE)⟩
/-- an object beside the store becomes the store's own; no value names it -/
theorem SR.adopt (r : SR K mg H (φ.hide D) S) {ob : Ob} (h : OR K mg H ⟨φ.t ++ [D], φ.h⟩ ob D) (nh : D ∉ φ.h) : Mon H H (φ.hide D) ⟨φ.t ++ [D], φ.h⟩ ∧ SR K mg H ⟨φ.t ++ [D], φ.h⟩ (S ++ [ob]) ∧ (φ.t ++ [D])[S.length]? = some D := by
  obtain ⟨nD, oD, eD⟩ := r.hd D List.mem_cons_self
  have nD : D ∉ φ.t := nD
  have rl : φ.t.length = S.length := r.len
  have x : Mon H H (φ.hide D) ⟨φ.t ++ [D], φ.h⟩ := ⟨⟨[D], rfl⟩, fun p u h n => ⟨h, fun z => by
      rcases List.mem_append.mp z with z | z
      · exact n.1 z
      · exact n.2 (by rw [List.mem_singleton.mp z]; exact List.mem_cons_self), fun z => n.2 (List.mem_cons_of_mem _ z)⟩, fun _ _ h => h, fun _ _ _ h => h⟩
  have last : (φ.t ++ [D])[S.length]? = some D := by rw [← rl]; simp
  refine ⟨x, ⟨by simp [rl], ?_, fun a ob' p h' e => ?_, fun E hE => ?_⟩, last⟩
  · exact List.nodup_append.mpr ⟨r.nd, by simp, fun a ha b hb => by
      have : b = D := by simpa using hb
      subst this
      exact fun z => nD (z ▸ ha)⟩
  · by_cases ha : a < S.length
    · rw [List.getElem?_append_left ha] at h'
      have e' : φ.t[a]? = some p := by
        have e2 : (φ.t ++ [D])[a]? = some p := e
        rw [List.getElem?_append_left (by rw [rl]; exact ha)] at e2
        exact e2
      exact (r.at_ a ob' p h' e').monoM x rfl
    · have hlt := (List.getElem?_eq_some_iff.mp h').1
      simp at hlt
      have ea : a = S.length := by omega
      subst ea
      have e2 : (φ.t ++ [D])[S.length]? = some p := e
      rw [last] at e2; cases e2
      simp at h'
      subst h'
      exact h
  · obtain ⟨n, u, q⟩ := r.hd E (List.mem_cons_of_mem _ hE)
    refine ⟨fun z => ?_, u, q⟩
    rcases List.mem_append.mp z with z | z
    · exact n z
    · rw [List.mem_singleton.mp z] at hE; exact nh hE
/-- an object that the model does not track is laid at a new place -/
theorem SR.extra (r : SR K mg H φ S) {q : Addr} {o : HO} (hq : H q = none) : Ext H (upd H q o) φ φ ∧ SR K mg (upd H q o) φ S := by
  have nq := r.notin hq
  have x : Ext H (upd H q o) φ φ := ⟨⟨[], by simp⟩, rfl, fun p u h _ => by rw [upd_ne (ne_of_none h hq)]; exact h, fun _ h n => absurd h n,
    fun p xs h => by rw [upd_ne (ne_of_none h hq)]; exact h, fun p u v h => by rw [upd_ne (ne_of_none h hq)]; exact h⟩
  refine ⟨x, r.len, r.nd, fun a ob p h e => (r.at_ a ob p h e).mono x ?_, r.hidden x⟩
  have : p ≠ q := fun z => nq.1 (z ▸ List.mem_of_getElem? e)
  exact upd_ne this
/-- a new object of the store at a new place -/
theorem SR.push (r : SR K mg H φ S) {q : Addr} {o : HO} {ob : Ob} (hq : H q = none) (h : ∀ H' φ', Ext H H' φ φ' → H' q = some o → OR K mg H' φ' ob q) :
    Ext H (upd H q o) φ ⟨φ.t ++ [q], φ.h⟩ ∧ SR K mg (upd H q o) ⟨φ.t ++ [q], φ.h⟩ (S ++ [ob]) ∧ (φ.t ++ [q])[S.length]? = some q := by
  have nq := r.notin hq
  have x : Ext H (upd H q o) φ ⟨φ.t ++ [q], φ.h⟩ := ⟨⟨[q], rfl⟩, rfl, fun p u h _ => by rw [upd_ne (ne_of_none h hq)]; exact h, fun p h n => by
      rcases List.mem_append.mp (show p ∈ φ.t ++ [q] from h) with z | z
      · exact absurd z n
      · have : p = q := by simpa using z
        rw [this]; exact hq,
    fun p xs h => by rw [upd_ne (ne_of_none h hq)]; exact h, fun p u v h => by rw [upd_ne (ne_of_none h hq)]; exact h⟩
  have last : (φ.t ++ [q])[S.length]? = some q := by rw [← r.len]; simp
  refine ⟨x, ⟨by simp [r.len], ?_, fun a ob' p h' e => ?_, r.hidden x⟩, last⟩
  · exact List.nodup_append.mpr ⟨r.nd, by simp, fun a ha b hb => by
      have : b = q := by simpa using hb
      subst this
      exact fun z => nq.1 (z ▸ ha)⟩
  · by_cases ha : a < S.length
    · rw [List.getElem?_append_left ha] at h'
      have e' : φ.t[a]? = some p := by
        have e2 : (φ.t ++ [q])[a]? = some p := e
        rw [List.getElem?_append_left (by rw [r.len]; exact ha)] at e2
        exact e2
      refine (r.at_ a ob' p h' e').mono x ?_
      exact upd_ne fun z => nq.1 (z ▸ List.mem_of_getElem? e')
    · have hlt := (List.getElem?_eq_some_iff.mp h').1
      simp at hlt
      have ea : a = S.length := by omega
      subst ea
      have e2 : (φ.t ++ [q])[S.length]? = some p := e
      rw [last] at e2; cases e2
      simp at h'
      subst h'
      exact h _ _ x upd_same
/-- an object of the store is changed -/
theorem SR.write (r : SR K mg H φ S) {a : Nat} {p : Addr} {o : HO} {ob : Ob} (ha : φ.t[a]? = some p) (h : ∀ H' φ', Ext H H' φ φ' → H' p = some o → OR K mg H' φ' ob p) :
    Ext H (upd H p o) φ φ ∧ SR K mg (upd H p o) φ (S.set a ob) := by
  have hp : p ∈ φ.t := List.mem_of_getElem? ha
  obtain ⟨o0, e0, s0⟩ := r.ho hp
  have x : Ext H (upd H p o) φ φ := ⟨⟨[], by simp⟩, rfl, fun q u h n => by rw [upd_ne (fun z => n (by rw [z]; exact hp))]; exact h, fun _ h n => absurd h n,
    fun q xs h => by rw [upd_ne (fun z => by rw [z, e0] at h; cases h; cases s0)]; exact h, fun q u v h => by rw [upd_ne (fun z => by rw [z, e0] at h; cases h; cases s0)]; exact h⟩
  refine ⟨x, by rw [List.length_set]; exact r.len, r.nd, fun b ob' q h' e => ?_, r.hidden x⟩
  by_cases hb : b = a
  · subst hb
    have hl := (List.getElem?_eq_some_iff.mp ha).1
    rw [List.getElem?_set_self (by rw [← r.len]; exact hl)] at h'
    cases h'
    rw [ha] at e; cases e
    exact h _ _ x upd_same
  · rw [List.getElem?_set_ne (Ne.symm hb)] at h'
    refine (r.at_ b ob' q h' e).mono x (upd_ne fun z => ?_)
    subst z
    exact hb ((List.getElem?_inj (List.getElem?_eq_some_iff.mp e).1 r.nd).mp (e.trans ha.symm))
/-! ### the store is cut back -/
/-- the entry's part -/
def Fi.cut (φ : Fi) (n : Nat) : Fi := ⟨φ.t.take n, φ.h⟩
theorem Out.cut {p : Addr} {n : Nat} (h : Out φ p) : Out (φ.cut n) p := ⟨fun z => h.1 (List.mem_of_mem_take z), h.2⟩
theorem SqW.cut {p : Addr} {n : Nat} {vs : List V} (h : SqW H φ p vs) : SqW H (φ.cut n) p vs := ⟨h.1.cut, h.2⟩
theorem get_cut {a n : Nat} {p : Addr} (h : φ.t[a]? = some p) (ha : a < n) : (φ.cut n).t[a]? = some p := by
  show (φ.t.take n)[a]? = some p
  rw [List.getElem?_take, if_pos ha]; exact h
mutual
theorem VR.low {n : Nat} : ∀ {w : W} {v : V}, VR K mg H φ w v → lowW n w = true → VR K mg H (φ.cut n) w v
  | .non, v, h, _ => h
  | .bl b, v, h, _ => h
  | .int i, v, h, _ => h
  | .str s, v, h, _ => h
  | .tup ws, v, h, l => by
    simp only [VR] at h ⊢
    obtain ⟨p, vs, e, q, r⟩ := h
    exact ⟨p, vs, e, q, VRs.low r (by simpa only [lowW] using l)⟩
  | .ref a, v, h, l => by
    simp only [VR] at h ⊢
    obtain ⟨p, e, q⟩ := h
    exact ⟨p, e, get_cut q (by simpa only [lowW, decide_eq_true_eq] using l)⟩
  | .ty n, v, h, _ => h
  | .glo y, v, h, _ => h
  | .lst ws, v, h, l => by
    simp only [VR] at h ⊢
    obtain ⟨p, vs, e, q, r⟩ := h
    exact ⟨p, vs, e, q.cut, VRs.low r (by simpa only [lowW] using l)⟩
  | .dic ks ws, v, h, l => by
    simp only [VR] at h ⊢
    obtain ⟨p, us, e, n, q, k, r⟩ := h
    exact ⟨p, us, e, n.cut, q, k, VRs.low r (by simpa only [lowW] using l)⟩
  | .scr ns, v, h, _ => h
theorem VRs.low {n : Nat} : ∀ {ws : List W} {vs : List V}, VRs K mg H φ ws vs → lowWs n ws = true → VRs K mg H (φ.cut n) ws vs
  | [], vs, h, _ => h
  | w :: ws, vs, h, l => by
    simp only [VRs] at h ⊢
    simp only [lowWs, Bool.and_eq_true] at l
    obtain ⟨v, r, e, a, b⟩ := h
    exact ⟨v, r, e, VR.low a l.1, VRs.low b l.2⟩
end
mutual
theorem VR.mapR {n : Nat} {f : Nat → Option W} (hf : ∀ a w' v, f a = some w' → VR K mg H φ (.ref a) v → VR K mg H (φ.cut n) w' v) : ∀ {w w' : W} {v : V}, mapR f w = some w' → VR K mg H φ w v → VR K mg H (φ.cut n) w' v
  | .non, w', v, e, h => by simp only [Sh.mapR] at e; cases e; exact h
  | .bl b, w', v, e, h => by simp only [Sh.mapR] at e; cases e; exact h
  | .int i, w', v, e, h => by simp only [Sh.mapR] at e; cases e; exact h
  | .str s, w', v, e, h => by simp only [Sh.mapR] at e; cases e; exact h
  | .ty n, w', v, e, h => by simp only [Sh.mapR] at e; cases e; exact h
  | .glo y, w', v, e, h => by simp only [Sh.mapR] at e; cases e; exact h
  | .ref a, w', v, e, h => by simp only [Sh.mapR] at e; exact hf a w' v e h
  | .tup ws, w', v, e, h => by
    simp only [Sh.mapR, Option.map_eq_some_iff] at e
    obtain ⟨ws', e1, rfl⟩ := e
    simp only [VR] at h ⊢
    obtain ⟨p, vs, e, q, r⟩ := h
    exact ⟨p, vs, e, q, VRs.mapRs hf e1 r⟩
  | .lst ws, w', v, e, h => by
    simp only [Sh.mapR, Option.map_eq_some_iff] at e
    obtain ⟨ws', e1, rfl⟩ := e
    simp only [VR] at h ⊢
    obtain ⟨p, vs, e, q, r⟩ := h
    exact ⟨p, vs, e, q.cut, VRs.mapRs hf e1 r⟩
  | .dic ks ws, w', v, e, h => by
    simp only [Sh.mapR, Option.map_eq_some_iff] at e
    obtain ⟨ws', e1, rfl⟩ := e
    simp only [VR] at h ⊢
    obtain ⟨p, us, e, n, q, k, r⟩ := h
    exact ⟨p, us, e, n.cut, q, k, VRs.mapRs hf e1 r⟩
  | .scr ns, w', v, e, h => by simp only [Sh.mapR] at e; cases e; exact h
theorem VRs.mapRs {n : Nat} {f : Nat → Option W} (hf : ∀ a w' v, f a = some w' → VR K mg H φ (.ref a) v → VR K mg H (φ.cut n) w' v) : ∀ {ws ws' : List W} {vs : List V}, mapRs f ws = some ws' → VRs K mg H φ ws vs → VRs K mg H (φ.cut n) ws' vs
  | [], ws', vs, e, h => by simp only [Sh.mapRs] at e; cases e; simp only [VRs] at h ⊢; exact h
  | w :: ws, ws', vs, e, h => by
    simp only [Sh.mapRs] at e
    cases e1 : Sh.mapR f w with
    | none => rw [e1] at e; cases e
    | some a =>
      cases e2 : Sh.mapRs f ws with
      | none => rw [e1, e2] at e; cases e
      | some b =>
        rw [e1, e2] at e
        cases e
        simp only [VRs] at h ⊢
        obtain ⟨v, r, e, h1, h2⟩ := h
        exact ⟨v, r, e, VR.mapR hf e1 h1, VRs.mapRs hf e2 h2⟩
end
theorem fzL_ok {n : Nat} {f : W → Option W} (hf : ∀ w w' v, f w = some w' → VR K mg H φ w v → VR K mg H (φ.cut n) w' v) : ∀ {ws ws' : List W} {vs : List V}, fzL f ws = some ws' → VRs K mg H φ ws vs → VRs K mg H (φ.cut n) ws' vs
  | [], ws', vs, e, h => by simp only [fzL] at e; cases e; simp only [VRs] at h ⊢; exact h
  | w :: ws, ws', vs, e, h => by
    simp only [fzL] at e
    cases e1 : f w with
    | none => rw [e1] at e; cases e
    | some a =>
      cases e2 : fzL f ws with
      | none => rw [e1, e2] at e; cases e
      | some b =>
        rw [e1, e2] at e
        cases e
        simp only [VRs] at h ⊢
        obtain ⟨v, r, e, h1, h2⟩ := h
        exact ⟨v, r, e, hf _ _ _ e1 h1, fzL_ok hf e2 h2⟩
theorem SR.outTail (s : SR K mg H φ S) {a n : Nat} {p : Addr} (h : φ.t[a]? = some p) (ha : ¬ a < n) : Out (φ.cut n) p := by
  refine ⟨fun z => ?_, fun z => ?_⟩
  · obtain ⟨i, hi, e⟩ := List.mem_iff_getElem.mp z
    have hi' : i < n := by
      have := hi
      simp [Fi.cut] at this
      omega
    have e2 : φ.t[i]? = some p := by
      have e3 : (φ.t.take n)[i]? = some p := by rw [← e]; exact List.getElem?_eq_getElem _
      rw [List.getElem?_take, if_pos hi'] at e3
      exact e3
    have := (List.getElem?_inj (List.getElem?_eq_some_iff.mp e2).1 s.nd).mp (e2.trans h.symm)
    omega
  · exact (s.hd p z).1 (List.mem_of_getElem? h)
theorem fzD_ok (s : SR K mg H φ S) {n : Nat} : ∀ (d : Nat) (w w' : W) (v : V), fzD n S d w = some w' → VR K mg H φ w v → VR K mg H (φ.cut n) w' v
  | 0, w, w', v, e, h => by
    simp only [fzD] at e
    split at e
    · rename_i hl
      cases e
      exact h.low hl
    · cases e
  | d + 1, w, w', v, e, h => by
    simp only [fzD] at e
    refine VR.mapR (n := n) (fun a u v' e1 h1 => ?_) e h
    simp only [VR] at h1
    obtain ⟨p, rfl, q⟩ := h1
    split at e1
    · rename_i ha
      cases e1
      simp only [VR]
      exact ⟨p, rfl, get_cut q ha⟩
    · rename_i ha
      have o := s.outTail q ha
      split at e1
      · rename_i ws e0
        simp only [Option.map_eq_some_iff] at e1
        obtain ⟨ws', e2, rfl⟩ := e1
        obtain ⟨vs, hp, r⟩ := s.at_ a _ p e0 q
        simp only [VR]
        exact ⟨p, vs, rfl, ⟨o, hp⟩, fzL_ok (fun w w' v e h => fzD_ok s d w w' v e h) e2 r⟩
      · rename_i kvs e0
        simp only [Option.map_eq_some_iff] at e1
        obtain ⟨ws', e2, rfl⟩ := e1
        obtain ⟨us, hp, r⟩ := s.at_ a _ p e0 q
        simp only [VR]
        exact ⟨p, us, rfl, o, hp, r.1.symm, fzL_ok (fun w w' v e h => fzD_ok s d w w' v e h) e2 r.2⟩
      · cases e1
theorem SR.cut (s : SR K mg H φ S) {n : Nat} (h : okS n S = true) : SR K mg H (φ.cut n) (S.take n) := by
  refine ⟨by simp [Fi.cut, s.len], s.nd.sublist (List.take_sublist _ _), fun a ob p e1 e2 => ?_, fun D hD => ⟨fun z => (s.hd D hD).1 (List.mem_of_mem_take z), (s.hd D hD).2⟩⟩
  have hl : lowO n ob = true := List.all_eq_true.mp h ob (List.mem_of_getElem? e1)
  rw [List.getElem?_take] at e1
  split at e1
  · rename_i ha
    have e2' : φ.t[a]? = some p := by
      have e3 : (φ.t.take n)[a]? = some p := e2
      rw [List.getElem?_take, if_pos ha] at e3
      exact e3
    have o := s.at_ a ob p e1 e2'
    cases ob with
    | lst ws => obtain ⟨vs, q, r⟩ := o; exact ⟨vs, q, r.low hl⟩
    | dic kvs => obtain ⟨us, q, r⟩ := o; exact ⟨us, q, r.1, r.2.low hl⟩
    | ins c fs => obtain ⟨C, dx, us, m, q, r⟩ := o; exact ⟨C, dx, us, m, q, r.1, r.2.low hl⟩
  · cases e1
/-- since the entry -/
theorem Ext.cut {S0 : Store} (x : Ext H H' φ φ') (s0 : SR K mg H φ S0) : Ext H H' φ φ ∧ φ'.cut S0.length = φ := by
  obtain ⟨l, e⟩ := x.pre
  refine ⟨⟨⟨[], by simp⟩, rfl, x.fr, fun p h n => absurd h n, x.tup, x.frz⟩, ?_⟩
  obtain ⟨t, h⟩ := φ
  obtain ⟨t', h'⟩ := φ'
  have hh : h' = h := x.hid
  have ht : t' = t ++ l := e
  subst hh ht
  show (⟨(t ++ l).take S0.length, h'⟩ : Fi) = ⟨t, h'⟩
  have hl : t.length = S0.length := s0.len
  rw [← hl, List.take_left]
/-- what stands beside the store stays there -/
theorem Ext.beside (x : Ext H H' φ φ') {q : Addr} {o : HO} (h : H q = some o) (n : q ∉ φ.t) : H' q = some o ∧ q ∉ φ'.t := by
  refine ⟨x.fr q o h n, fun z => ?_⟩
  have := x.new q z n
  rw [h] at this; cases this
end
end Sh

set_option Elab.async false
set_option linter.all false
set_option maxRecDepth 100000
set_option maxHeartbeats 2000000
/-! ShE: the readings by the model; the rules of expressions, tests, statements. -/
namespace Sh
open PySem PySem.Spec PyProof.Rows L2

section
variable (K : PySem.W.Frag) (mg : Str → Option Value)
structure ER (H : Hp) (φ : Fi) (e : En) (σ : L2.St) : Prop where
  len : e.length = σ.length
  at_ : ∀ (i : Nat) w, e[i]? = some (some w) → ∃ v, σ[i]? = some (some v) ∧ VR K mg H φ w v
def XR (H : Hp) (φ : Fi) (x : Exn) (cls : Value) (d : Option Addr) : Prop :=
  ∃ C, mg x.cls = some (.ref C) ∧ cls = .ref C ∧ ((x.fs = [] ∧ d = none) ∨ ∃ dd us, x.fs ≠ [] ∧ d = some dd ∧ H dd = some (.xd us) ∧ KVR K mg H φ x.fs us)
/-- what a result says -/
def PostR {α β : Type} (Wx : WX) (Rel : Hp → Fi → α → β → Prop) (σ : L2.St) (H : Hp) (φ : Fi) (Q : β → Hp → Prop) : R α → Prop
  | .ok a S' => ∀ b H' φ', Ext H H' φ φ' → SR K mg H' φ' S' → Rel H' φ' a b → Q b H'
  | .exc x S' => ∀ cls d H' φ', Ext H H' φ φ' → SR K mg H' φ' S' → XR K mg H' φ' x cls d → Wx cls d σ H'
  | .bad => False
def PostS (Wx : WX) (D : Ends) (H : Hp) (φ : Fi) : RS → Prop
  | .nx e S' => ∀ σ' H' φ', Ext H H' φ φ' → ER K mg H' φ' e σ' → SR K mg H' φ' S' → D.nx σ' H'
  | .ret w S' => ∀ v H' φ', Ext H H' φ φ' → SR K mg H' φ' S' → VR K mg H' φ' w v → D.rt v H'
  | .brk e S' => ∀ σ' H' φ', Ext H H' φ φ' → ER K mg H' φ' e σ' → SR K mg H' φ' S' → D.bk σ' H'
  | .cnt e S' => ∀ σ' H' φ', Ext H H' φ φ' → ER K mg H' φ' e σ' → SR K mg H' φ' S' → D.ct σ' H'
  | .exc x e S' => ∀ cls d σ' H' φ', Ext H H' φ φ' → ER K mg H' φ' e σ' → SR K mg H' φ' S' → XR K mg H' φ' x cls d → Wx cls d σ' H'
  | .bad => False
/-- the readings -/
def rE (Wx : WX) (m : EM) : TE := fun σ H Q => ∃ e S φ, ER K mg H φ e σ ∧ SR K mg H φ S ∧ PostR K mg Wx (VR K mg) σ H φ Q (m e S)
def rT (Wx : WX) (m : TM) : TT := fun σ H Q => ∃ e S φ, ER K mg H φ e σ ∧ SR K mg H φ S ∧ PostR K mg Wx (fun _ _ a b => a = b) σ H φ Q (m e S)
def rA (Wx : WX) (m : AM) : TA := fun σ H Q => ∃ e S φ, ER K mg H φ e σ ∧ SR K mg H φ S ∧ PostR K mg Wx (VRs K mg) σ H φ Q (m e S)
def rS (Wx : WX) (m : SM) : TS := fun D σ H => ∃ e S φ, ER K mg H φ e σ ∧ SR K mg H φ S ∧ PostS K mg Wx D H φ (m e S)
end

section
variable {K : PySem.W.Frag} {mg : Str → Option Value} {H H' : Hp} {φ φ' : Fi} {S S' : Store} {e : En} {σ : L2.St} {Wx : WX}
theorem ER.mono (x : Ext H H' φ φ') (h : ER K mg H φ e σ) : ER K mg H' φ' e σ := ⟨h.len, fun i w q => let ⟨v, a, b⟩ := h.at_ i w q; ⟨v, a, b.mono x⟩⟩
theorem ER.monoM (x : Mon H H' φ φ') (h : ER K mg H φ e σ) : ER K mg H' φ' e σ := ⟨h.len, fun i w q => let ⟨v, a, b⟩ := h.at_ i w q; ⟨v, a, b.monoM x⟩⟩
theorem ER.set (h : ER K mg H φ e σ) {i : Nat} {w : W} {v : V} (r : VR K mg H φ w v) : ER K mg H φ (e.set i (some w)) (σ.set i (some v)) := by
  refine ⟨by simp [h.len], fun j w' q => ?_⟩
  by_cases hj : i = j
  · subst hj
    have hl : i < e.length := by
      have := (List.getElem?_eq_some_iff.mp q).1
      simpa using this
    rw [List.getElem?_set_self hl] at q
    cases q
    exact ⟨v, List.getElem?_set_self (by rw [← h.len]; exact hl), r⟩
  · rw [List.getElem?_set_ne hj] at q
    obtain ⟨u, a, b⟩ := h.at_ j w' q
    exact ⟨u, by rw [List.getElem?_set_ne hj]; exact a, b⟩
theorem ER.forget (h : ER K mg H φ e σ) {i : Nat} : ER K mg H φ (e.set i none) (σ.set i none) := by
  refine ⟨by simp [h.len], fun j w' q => ?_⟩
  by_cases hj : i = j
  · subst hj
    have hl : i < e.length := by
      have := (List.getElem?_eq_some_iff.mp q).1
      simpa using this
    rw [List.getElem?_set_self hl] at q
    cases q
  · rw [List.getElem?_set_ne hj] at q
    obtain ⟨u, a, b⟩ := h.at_ j w' q
    exact ⟨u, by rw [List.getElem?_set_ne hj]; exact a, b⟩
theorem ER.wipe (h : ER K mg H φ e σ) : ∀ vs : List Nat, ER K mg H φ (wipeE e vs) (wipe σ vs)
  | [] => h
  | v :: vs => (h.wipe vs).forget
theorem PostR.ext {α β : Type} {Rel : Hp → Fi → α → β → Prop} {Q : β → Hp → Prop} (x : Ext H H' φ φ') : ∀ {r : R α}, PostR K mg Wx Rel σ H φ Q r → PostR K mg Wx Rel σ H' φ' Q r
  | .ok a S, h => fun b H2 φ2 y s r => h b H2 φ2 (x.trans y) s r
  | .exc z S, h => fun c d H2 φ2 y s r => h c d H2 φ2 (x.trans y) s r
  | .bad, h => h
theorem PostS.ext {D : Ends} (x : Ext H H' φ φ') : ∀ {r : RS}, PostS K mg Wx D H φ r → PostS K mg Wx D H' φ' r
  | .nx e S, h => fun b H2 φ2 y s r => h b H2 φ2 (x.trans y) s r
  | .ret w S, h => fun b H2 φ2 y s r => h b H2 φ2 (x.trans y) s r
  | .brk e S, h => fun b H2 φ2 y s r => h b H2 φ2 (x.trans y) s r
  | .cnt e S, h => fun b H2 φ2 y s r => h b H2 φ2 (x.trans y) s r
  | .exc z e S, h => fun c d b H2 φ2 y s r q => h c d b H2 φ2 (x.trans y) s r q
  | .bad, h => h
/-- the first of two -/
theorem PostR.bind {α β α' β' : Type} {Rel : Hp → Fi → α → β → Prop} {Rel' : Hp → Fi → α' → β' → Prop} {Q : β' → Hp → Prop} {G : β → Hp → Prop} {r : R α} {k : α → Store → R α'}
    (h : PostR K mg Wx Rel' σ H φ Q (r.bind k)) (g : ∀ a S1 b H1 φ1, Ext H H1 φ φ1 → SR K mg H1 φ1 S1 → Rel H1 φ1 a b → PostR K mg Wx Rel' σ H1 φ1 Q (k a S1) → G b H1) : PostR K mg Wx Rel σ H φ G r := by
  cases r with
  | ok a S1 => exact fun b H1 φ1 x s q => g a S1 b H1 φ1 x s q (PostR.ext x h)
  | exc z S1 => exact h
  | bad => exact h
theorem PostS.thn {α β : Type} {Rel : Hp → Fi → α → β → Prop} {D : Ends} {G : β → Hp → Prop} {r : R α} {k : α → Store → RS} (er : ER K mg H φ e σ)
    (h : PostS K mg Wx D H φ (r.thn e k)) (g : ∀ a S1 b H1 φ1, Ext H H1 φ φ1 → SR K mg H1 φ1 S1 → Rel H1 φ1 a b → PostS K mg Wx D H1 φ1 (k a S1) → G b H1) : PostR K mg Wx Rel σ H φ G r := by
  cases r with
  | ok a S1 => exact fun b H1 φ1 x s q => g a S1 b H1 φ1 x s q (PostS.ext x h)
  | exc z S1 => exact fun c d H1 φ1 x s q => h c d σ H1 φ1 x (er.mono x) s q
  | bad => exact h
theorem PostR.ok_at {α β : Type} {Rel : Hp → Fi → α → β → Prop} {Q : β → Hp → Prop} {a : α} {b : β} (h : PostR K mg Wx Rel σ H φ Q (.ok a S)) (s : SR K mg H φ S) (r : Rel H φ a b) : Q b H := h b H φ .refl s r
theorem leE {X : Cx} {x : Expr} {t t' : TE} (h : PE X x t) (g : ∀ σ H Q, t' σ H Q → t σ H Q) : PE X x t' := ⟨fun pins s σ H Q I q => h.run pins s σ H Q I (g σ H Q q)⟩
theorem leT {X : Cx} {x : Expr} {t t' : TT} (h : PT X x t) (g : ∀ σ H Q, t' σ H Q → t σ H Q) : PT X x t' := ⟨fun pins s σ H Q I q => h.run pins s σ H Q I (g σ H Q q)⟩
theorem lePW {X : Cx} {x : Expr} {t t' : TT} (h : PW X x t) (g : ∀ σ H Q, t' σ H Q → t σ H Q) : PW X x t' := ⟨fun wh pins s σ H Q I q => h.run wh pins s σ H Q I (g σ H Q q)⟩
theorem leA {X : Cx} {x : List Expr} {t t' : TA} (h : PA X x t) (g : ∀ σ H Q, t' σ H Q → t σ H Q) : PA X x t' := ⟨fun pos pins s σ H Q I q => h.run pos pins s σ H Q I (g σ H Q q)⟩
theorem leS {X : Cx} {x : Stmt} {t t' : TS} (h : PS X x t) (g : ∀ D σ H, t' D σ H → t D σ H) : PS X x t' := ⟨fun pins s σ H D I q => h.run pins s σ H D I (g D σ H q)⟩
theorem leSs {X : Cx} {x : List Stmt} {t t' : TS} (h : PSs X x t) (g : ∀ D σ H, t' D σ H → t D σ H) : PSs X x t' := ⟨fun pins s σ H D I q => h.run pins s σ H D I (g D σ H q)⟩
end

/-! ### expressions -/
section
variable {X : Cx} {Wx : WX}
/-- short: the readings in a context -/
abbrev ME (X : Cx) (Wx : WX) (x : Expr) (m : EM) : Prop := PE X x (rE X.K X.mg Wx m)
abbrev MT (X : Cx) (Wx : WX) (x : Expr) (m : TM) : Prop := PT X x (rT X.K X.mg Wx m)
abbrev MW (X : Cx) (Wx : WX) (x : Expr) (m : TM) : Prop := PW X x (rT X.K X.mg Wx m)
abbrev MA (X : Cx) (Wx : WX) (x : List Expr) (m : AM) : Prop := PA X x (rA X.K X.mg Wx m)
abbrev MS (X : Cx) (Wx : WX) (x : Stmt) (m : SM) : Prop := PS X x (rS X.K X.mg Wx m)
abbrev MSs (X : Cx) (Wx : WX) (x : List Stmt) (m : SM) : Prop := PSs X x (rS X.K X.mg Wx m)
variable {a b c : Expr} {A B : EM} {pos : Pos}

theorem m_var {i : Nat} {x : Str} (h : PE X (.Name x pos) (tVar i)) : ME X Wx (.Name x pos) (eVar i) := leE h fun σ H Q ⟨e, S, φ, er, sr, q⟩ => by
  unfold eVar at q
  split at q
  · rename_i w hw
    obtain ⟨v, e1, r⟩ := er.at_ i w hw
    exact ⟨v, e1, q.ok_at sr r⟩
  · exact q.elim
theorem m_const {v : V} {w : W} (h : PE X a (fun _ H Q => Q v H)) (r : ∀ H φ, VR X.K X.mg H φ w v) : ME X Wx a (eC w) := leE h fun σ H Q ⟨e, S, φ, er, sr, q⟩ => q.ok_at sr (r H φ)
theorem m_int {i : Int} {j : Nat} : ME X Wx (.Constant (.int i) j pos) (eC (.int i)) := m_const pe_int fun _ _ => by simp [VR]
theorem m_bl {i : Bool} {j : Nat} : ME X Wx (.Constant (.bool i) j pos) (eC (.bl i)) := m_const pe_bl fun _ _ => by simp [VR]
theorem m_non {j : Nat} : ME X Wx (.Constant .none j pos) (eC .non) := m_const pe_non fun _ _ => by simp [VR]
theorem m_str {x : Str} {j : Nat} : ME X Wx (.Constant (.str x) j pos) (eC (.str x)) := m_const pe_str fun _ _ => by simp [VR]
/-- a global of the module, as a value -/
theorem m_glo {x : Str} {u : Addr} (hg : Gl X x) (hm : X.mg x = some (.ref u)) (hd : (x == ("__debug__" : Str)) = false := by decide) : ME X Wx (.Name x pos) (eC (.glo x)) :=
  m_const (pe_glob (v := .ref u) hg hm rfl hd) fun _ _ => by simp only [VR]; exact ⟨u, hm, rfl⟩
/-- a global that is a tuple, a number, a text -/
theorem m_gloV {x : Str} {u : Value} {v : V} {w : W} (hg : Gl X x) (hm : X.mg x = some u) (r : RelV v u) (hw : ∀ H φ, VR X.K X.mg H φ w v) (hd : (x == ("__debug__" : Str)) = false := by decide) : ME X Wx (.Name x pos) (eC w) :=
  m_const (pe_glob hg hm r hd) hw

/-- a primitive is sound for a rule -/
def Snd1 (K : PySem.W.Frag) (mg : Str → Option Value) (f : P1) (r : V → Hp → VK → Prop) : Prop := ∀ w S u S' H φ v Q, SR K mg H φ S → VR K mg H φ w v → f w S = some (u, S') →
  (∀ z H' φ', Ext H H' φ φ' → SR K mg H' φ' S' → VR K mg H' φ' u z → Q z H') → r v H Q
def Snd2 (K : PySem.W.Frag) (mg : Str → Option Value) (f : P2) (r : R2) : Prop := ∀ w w' S u S' H φ v v' Q, SR K mg H φ S → VR K mg H φ w v → VR K mg H φ w' v' → f w w' S = some (u, S') →
  (∀ z H' φ', Ext H H' φ φ' → SR K mg H' φ' S' → VR K mg H' φ' u z → Q z H') → r v v' H Q
def SndN (K : PySem.W.Frag) (mg : Str → Option Value) (f : PN) (r : List V → Hp → VK → Prop) : Prop := ∀ ws S u S' H φ vs Q, SR K mg H φ S → VRs K mg H φ ws vs → f ws S = some (u, S') →
  (∀ z H' φ', Ext H H' φ φ' → SR K mg H' φ' S' → VR K mg H' φ' u z → Q z H') → r vs H Q
theorem post_lift {K : PySem.W.Frag} {mg : Str → Option Value} {H : Hp} {φ : Fi} {σ : L2.St} {Q : VK} {o : Option (W × Store)} (h : PostR K mg Wx (VR K mg) σ H φ Q (lift o)) :
    ∃ u S', o = some (u, S') ∧ ∀ z H' φ', Ext H H' φ φ' → SR K mg H' φ' S' → VR K mg H' φ' u z → Q z H' := by
  cases o with
  | none => exact h.elim
  | some p => exact ⟨p.1, p.2, rfl, h⟩
theorem m_1 {f : P1} {r : V → Hp → VK → Prop} (hf : Snd1 X.K X.mg f r) (hp : PE X c (fun σ H Q => rE X.K X.mg Wx A σ H fun x H1 => r x H1 Q)) : ME X Wx c (e1 f A) := leE hp fun σ H Q ⟨e, S, φ, er, sr, q⟩ =>
  ⟨e, S, φ, er, sr, q.bind fun w S1 v H1 φ1 x1 s1 r1 q1 => by
    obtain ⟨u, S', h1, h2⟩ := post_lift q1
    exact hf w S1 u S' H1 φ1 v Q s1 r1 h1 h2⟩
theorem m_2 {f : P2} {r : R2} (hf : Snd2 X.K X.mg f r) (hp : PE X c (tOp r (rE X.K X.mg Wx A) (rE X.K X.mg Wx B))) : ME X Wx c (e2 f A B) := leE hp fun σ H Q ⟨e, S, φ, er, sr, q⟩ =>
  ⟨e, S, φ, er, sr, q.bind fun w S1 v H1 φ1 x1 s1 r1 q1 => ⟨e, S1, φ1, er.mono x1, s1, q1.bind fun w' S2 v' H2 φ2 x2 s2 r2 q2 => by
    obtain ⟨u, S', h1, h2⟩ := post_lift q2
    exact hf w w' S2 u S' H2 φ2 v v' Q s2 (r1.mono x2) r2 h1 h2⟩⟩
theorem m_op {op : Operator} {f : P2} {r : R2} (ho : OpR X (binaryOp op) r) (hf : Snd2 X.K X.mg f r) (ha : ME X Wx a A) (hb : ME X Wx b B) : ME X Wx (.BinOp a op b pos) (e2 f A B) := m_2 hf (pe_op ho ha hb)
theorem m_un {op : UnaryOp} {f : P1} {r : V → Hp → VK → Prop} (ho : UnR X (unaryOp op) r) (hf : Snd1 X.K X.mg f r) (ha : ME X Wx a A) : ME X Wx (.UnaryOp op a pos) (e1 f A) := m_1 hf (pe_un ho ha)
theorem m_cmp {op : CmpOp} {f : P2} {r : R2} (ho : OpR X (compareOp op) r) (hf : Snd2 X.K X.mg f r) (ha : ME X Wx a A) (hb : ME X Wx b B) (hm : behindInMarks op b = false) : ME X Wx (.Compare a [op] [b] pos) (e2 f A B) := m_2 hf (pe_cmpR ho ha hb hm)
theorem m_ix {f : P2} {r : R2} (ho : IxR X r) (hf : Snd2 X.K X.mg f r) (ha : ME X Wx a A) (hb : ME X Wx b B) (hs : PlainIx b := by exact fun _ _ => rfl) : ME X Wx (.Subscript a b pos) (e2 f A B) := m_2 hf (pe_ix ho ha hb hs)
/-- the value's truth, from a bool -/
theorem post_bol {K : PySem.W.Frag} {mg : Str → Option Value} {H : Hp} {φ : Fi} {σ : L2.St} {S : Store} {w : W} {v : V} {Q : Bool → Hp → Prop} (s : SR K mg H φ S) (r : VR K mg H φ w v)
    (h : PostR K mg Wx (fun _ _ a b => a = b) σ H φ Q (liftB (bolW w) S)) : ∃ k, v = .bl k ∧ Q k H := by
  cases w with
  | bl k => exact ⟨k, r, h.ok_at s rfl⟩
  | _ => exact h.elim
theorem mt_cmp {op : CmpOp} {f : P2} {r : R2} (ho : OpR X (compareOp op) r) (hf : Snd2 X.K X.mg f r) (ha : ME X Wx a A) (hb : ME X Wx b B) (hm : behindInMarks op b = false) : MT X Wx (.Compare a [op] [b] pos) (tB (e2 f A B)) :=
  leT (pt_cmpR ho ha hb hm) fun σ H Q ⟨e, S, φ, er, sr, q⟩ => by
    have q' : PostR X.K X.mg Wx (VR X.K X.mg) σ H φ (fun v H1 => ∃ k, v = .bl k ∧ Q k H1) (e2 f A B e S) := PostR.bind q fun w S1 v H1 φ1 x1 s1 r1 q1 => post_bol s1 r1 q1
    refine ⟨e, S, φ, er, sr, PostR.bind q' fun w S1 v H1 φ1 x1 s1 r1 q1 => ⟨e, S1, φ1, er.mono x1, s1, q1.bind fun w' S2 v' H2 φ2 x2 s2 r2 q2 => ?_⟩⟩
    obtain ⟨u, S', h1, h2⟩ := post_lift q2
    exact hf w w' S2 u S' H2 φ2 v v' _ s2 (r1.mono x2) r2 h1 h2
/-- a op b op c -/
def eChain (f g : P2) (a b c : EM) : EM := fun e S => (a e S).bind fun x S1 => (b e S1).bind fun y S2 => (lift (f x y S2)).bind fun k S3 => (liftB (bolW k) S3).bind fun k S4 => if k = true then (c e S4).bind fun z S5 => lift (g y z S5) else .ok (.bl false) S4
theorem post_chain {K : PySem.W.Frag} {mg : Str → Option Value} {f g : P2} {r r' : R2} (hf : Snd2 K mg f r) (hg : Snd2 K mg g r') {A B C : EM} {σ : L2.St} {H : Hp} {Q : VK} {e : En} {S : Store} {φ : Fi} (er : ER K mg H φ e σ) (sr : SR K mg H φ S)
    (q : PostR K mg Wx (VR K mg) σ H φ Q (eChain f g A B C e S)) : tChain r r' (rE K mg Wx A) (rE K mg Wx B) (rE K mg Wx C) σ H Q := by
  refine ⟨e, S, φ, er, sr, PostR.bind q fun w S1 v H1 φ1 x1 s1 r1 q1 => ⟨e, S1, φ1, er.mono x1, s1, q1.bind fun w' S2 v' H2 φ2 x2 s2 r2 q2 => ?_⟩⟩
  have q3 : PostR K mg Wx (VR K mg) σ H2 φ2 (fun z H3 => ∃ k, z = .bl k ∧ if k = true then rE K mg Wx C σ H3 (fun z' H4 => r' v' z' H4 Q) else Q (.bl false) H3) (lift (f w w' S2)) := PostR.bind q2 fun k S3 kv H3 φ3 x3 s3 r3 q3 => by
    cases k with
    | bl k =>
      have e3 : kv = .bl k := r3
      subst e3
      refine ⟨k, rfl, ?_⟩
      cases k with
      | false => exact PostR.ok_at q3 s3 (show VR K mg H3 φ3 (.bl false) (.bl false) from rfl)
      | true =>
        refine ⟨e, S3, φ3, ((er.mono x1).mono x2).mono x3, s3, PostR.bind q3 fun w3 S4 v3 H4 φ4 x4 s4 r4 q4 => ?_⟩
        obtain ⟨u, S', h1, h2⟩ := post_lift q4
        exact hg w' w3 S4 u S' H4 φ4 v' v3 Q s4 ((r2.mono x3).mono x4) r4 h1 h2
    | _ => exact q3.elim
  obtain ⟨u, S', h1, h2⟩ := post_lift q3
  exact hf w w' S2 u S' H2 φ2 v v' _ s2 (r1.mono x2) r2 h1 h2
theorem m_chain {op op' : CmpOp} {f g : P2} {r r' : R2} {C : EM} (ho : OpR X (compareOp op) r) (ho' : OpR X (compareOp op') r') (hf : Snd2 X.K X.mg f r) (hg : Snd2 X.K X.mg g r') (ha : ME X Wx a A) (hb : ME X Wx b B) (hc : ME X Wx c C)
    (hm : lastMarks [op, op'] [b, c] = false := by with_unfolding_all rfl) : ME X Wx (.Compare a [op, op'] [b, c] pos) (eChain f g A B C) :=
  leE (pe_chain ho ho' ha hb hc hm) fun σ H Q ⟨e, S, φ, er, sr, q⟩ => post_chain hf hg er sr q
theorem mt_chain {op op' : CmpOp} {f g : P2} {r r' : R2} {C : EM} (ho : OpR X (compareOp op) r) (ho' : OpR X (compareOp op') r') (hf : Snd2 X.K X.mg f r) (hg : Snd2 X.K X.mg g r') (ha : ME X Wx a A) (hb : ME X Wx b B) (hc : ME X Wx c C)
    (hm : lastMarks [op, op'] [b, c] = false := by with_unfolding_all rfl) : MT X Wx (.Compare a [op, op'] [b, c] pos) (tB (eChain f g A B C)) :=
  leT (pt_chain ho ho' ha hb hc hm) fun σ H Q ⟨e, S, φ, er, sr, q⟩ =>
    post_chain (Q := fun v H1 => ∃ k, v = .bl k ∧ Q k H1) hf hg er sr (PostR.bind q fun w S1 v H1 φ1 x1 s1 r1 q1 => post_bol s1 r1 q1)

/-! ### truth -/
theorem truW_ok {K : PySem.W.Frag} {mg : Str → Option Value} {H : Hp} {φ : Fi} {S : Store} {w : W} {v : V} {k : Bool} (s : SR K mg H φ S) (r : VR K mg H φ w v) (h : truW w S = some k) : TruV K v H k := by
  cases w with
  | non => cases (show v = .non from r); cases h; rfl
  | bl b => cases (show v = .bl b from r); cases h; rfl
  | int i => cases (show v = .int i from r); cases h; rfl
  | str x =>
    cases (show v = .str x from r)
    simp only [truW] at h
    split at h
    · rename_i hz; cases h; exact ⟨hz, rfl⟩
    · cases h
  | tup xs =>
    simp only [VR] at r
    obtain ⟨p, vs, rfl, q, rr⟩ := r
    cases h
    refine .inr (.inl ⟨vs, q.sq, ?_⟩)
    have := rr.length
    cases xs <;> cases vs <;> simp_all
  | lst xs =>
    simp only [VR] at r
    obtain ⟨p, vs, rfl, q, rr⟩ := r
    cases h
    refine .inl ⟨vs, q.sq, ?_⟩
    have := rr.length
    cases xs <;> cases vs <;> simp_all
  | scr ns =>
    simp only [VR] at r
    obtain ⟨p, rfl, q⟩ := r
    cases h
    exact .inl ⟨_, q.sq, by cases ns <;> rfl⟩
  | dic ks ws =>
    simp only [VR] at r
    obtain ⟨p, us, rfl, n, q, k, rr⟩ := r
    cases h
    refine .inr (.inr ⟨us, q, ?_⟩)
    subst k
    cases us <;> rfl
  | ref a =>
    simp only [VR] at r
    obtain ⟨p, rfl, q⟩ := r
    obtain ⟨ob, e1, o⟩ := s.ob q
    simp only [truW, e1] at h
    cases ob with
    | lst xs =>
      cases h
      obtain ⟨vs, e2, rr⟩ := o
      refine .inl ⟨vs, SqL.of e2, ?_⟩
      have := rr.length
      cases xs <;> cases vs <;> simp_all
    | dic kvs =>
      cases h
      obtain ⟨us, e2, k1, rr⟩ := o
      refine .inr (.inr ⟨us, e2, ?_⟩)
      cases kvs <;> cases us <;> simp_all
    | ins c fs => cases h
  | _ => cases h
theorem post_tru {K : PySem.W.Frag} {mg : Str → Option Value} {H : Hp} {φ : Fi} {σ : L2.St} {S : Store} {w : W} {v : V} {β : Type} {α : Type} {Rel : Hp → Fi → α → β → Prop} {Q : β → Hp → Prop} {k : Bool → Store → R α} (s : SR K mg H φ S) (r : VR K mg H φ w v)
    (h : PostR K mg Wx Rel σ H φ Q ((liftB (truW w S) S).bind k)) : ∃ b, TruV K v H b ∧ PostR K mg Wx Rel σ H φ Q (k b S) := by
  cases e : truW w S with
  | none => rw [e] at h; exact h.elim
  | some b => rw [e] at h; exact ⟨b, truW_ok s r e, h⟩
theorem mt_truth (ha : ME X Wx a A) (he : ∀ whole, isTrue a X.env whole = (do let v ← whole; standAt a.pos; holding [v] (truthy v)) := by intro _; rfl) : MT X Wx a (tE A) :=
  leT (pt_truth ha he) fun σ H Q ⟨e, S, φ, er, sr, q⟩ => ⟨e, S, φ, er, sr, PostR.bind q fun w S1 v H1 φ1 x1 s1 r1 q1 => by
    have q2 : PostR X.K X.mg Wx (fun _ _ a b => a = b) σ H1 φ1 Q ((liftB (truW w S1) S1).bind fun b S => .ok b S) := by
      cases e : truW w S1 with
      | none => rw [e] at q1; exact q1
      | some b => rw [e] at q1; exact q1
    obtain ⟨b, t, q3⟩ := post_tru s1 r1 q2
    exact ⟨b, t, q3.ok_at s1 rfl⟩⟩
variable {U T : TM}
theorem mt_not (ha : MT X Wx a T) : MT X Wx (.UnaryOp .Not a pos) (tNot T) := leT (pt_not ha) fun σ H Q ⟨e, S, φ, er, sr, q⟩ => ⟨e, S, φ, er, sr, PostR.bind q fun w S1 v H1 φ1 x1 s1 r1 q1 => by
  subst r1
  exact q1.ok_at s1 rfl⟩
variable {rest : List Expr}
theorem mw_and1 (ha : MT X Wx a T) : MW X Wx (.BoolOp .And [a] pos) T := pw_and1 ha
theorem mw_or1 (ha : MT X Wx a T) : MW X Wx (.BoolOp .Or [a] pos) T := pw_or1 ha
theorem mw_and (ha : MT X Wx a T) (hb : MW X Wx (.BoolOp .And (b :: rest) pos) U) : MW X Wx (.BoolOp .And (a :: b :: rest) pos) (tAnd T U) := lePW (pw_and ha hb) fun σ H Q ⟨e, S, φ, er, sr, q⟩ => ⟨e, S, φ, er, sr, PostR.bind q fun w S1 v H1 φ1 x1 s1 r1 q1 => by
  subst r1
  cases w with
  | true => rw [if_pos rfl]; exact ⟨e, S1, φ1, er.mono x1, s1, q1⟩
  | false => rw [if_neg Bool.false_ne_true]; exact PostR.ok_at q1 s1 rfl⟩
theorem mw_or (ha : MT X Wx a T) (hb : MW X Wx (.BoolOp .Or (b :: rest) pos) U) : MW X Wx (.BoolOp .Or (a :: b :: rest) pos) (tOr T U) := lePW (pw_or ha hb) fun σ H Q ⟨e, S, φ, er, sr, q⟩ => ⟨e, S, φ, er, sr, PostR.bind q fun w S1 v H1 φ1 x1 s1 r1 q1 => by
  subst r1
  cases w with
  | true => rw [if_pos rfl]; exact PostR.ok_at q1 s1 rfl
  | false => rw [if_neg Bool.false_ne_true]; exact ⟨e, S1, φ1, er.mono x1, s1, q1⟩⟩
theorem mw_pt (h : MW X Wx a T) : MT X Wx a T := h.pt
theorem m_one {op : BoolOp} (h : ME X Wx a A) : ME X Wx (.BoolOp op [a] pos) A := pe_one h
theorem m_and (ha : ME X Wx a A) (hb : ME X Wx (.BoolOp .And (b :: rest) pos) B) : ME X Wx (.BoolOp .And (a :: b :: rest) pos) (eAnd A B) := leE (pe_andT ha hb) fun σ H Q ⟨e, S, φ, er, sr, q⟩ => ⟨e, S, φ, er, sr, PostR.bind q fun w S1 v H1 φ1 x1 s1 r1 q1 => by
  obtain ⟨k, t, q2⟩ := post_tru s1 r1 q1
  refine ⟨k, t, ?_⟩
  cases k with
  | true => rw [if_pos rfl]; exact ⟨e, S1, φ1, er.mono x1, s1, q2⟩
  | false => rw [if_neg Bool.false_ne_true]; exact PostR.ok_at q2 s1 r1⟩
theorem m_or (ha : ME X Wx a A) (hb : ME X Wx (.BoolOp .Or (b :: rest) pos) B) : ME X Wx (.BoolOp .Or (a :: b :: rest) pos) (eOr A B) := leE (pe_orT ha hb) fun σ H Q ⟨e, S, φ, er, sr, q⟩ => ⟨e, S, φ, er, sr, PostR.bind q fun w S1 v H1 φ1 x1 s1 r1 q1 => by
  obtain ⟨k, t, q2⟩ := post_tru s1 r1 q1
  refine ⟨k, t, ?_⟩
  cases k with
  | true => rw [if_pos rfl]; exact PostR.ok_at q2 s1 r1
  | false => rw [if_neg Bool.false_ne_true]; exact ⟨e, S1, φ1, er.mono x1, s1, q2⟩⟩
theorem m_not (ha : ME X Wx a A) : ME X Wx (.UnaryOp .Not a pos) (eNot A) := leE (pe_notT ha) fun σ H Q ⟨e, S, φ, er, sr, q⟩ => ⟨e, S, φ, er, sr, PostR.bind q fun w S1 v H1 φ1 x1 s1 r1 q1 => by
  obtain ⟨k, t, q2⟩ := post_tru s1 r1 q1
  exact ⟨k, t, PostR.ok_at q2 s1 (show VR X.K X.mg H1 φ1 (.bl (!k)) (.bl (!k)) from rfl)⟩⟩
theorem m_if {C : TM} (hc : MT X Wx c C) (ha : ME X Wx a A) (hb : ME X Wx b B) : ME X Wx (.IfExp c a b pos) (eIf C A B) := leE (pe_ifExp hc ha hb) fun σ H Q ⟨e, S, φ, er, sr, q⟩ => ⟨e, S, φ, er, sr, PostR.bind q fun w S1 v H1 φ1 x1 s1 r1 q1 => by
  subst r1
  cases w with
  | true => rw [if_pos rfl]; exact ⟨e, S1, φ1, er.mono x1, s1, q1⟩
  | false => rw [if_neg Bool.false_ne_true]; exact ⟨e, S1, φ1, er.mono x1, s1, q1⟩⟩

/-! ### argument lists, displays, calls -/
variable {es : List Expr} {As : List EM}
theorem ma_nil : MA X Wx [] (evs []) := leA pa_nil fun σ H Q ⟨e, S, φ, er, sr, q⟩ => PostR.ok_at q sr .nil
theorem ma_cons (ha : ME X Wx a A) (hr : MA X Wx es (evs As)) (hs : starEach (a :: es) X.env = (false, eval a X.env) :: starEach es X.env := by rfl) : MA X Wx (a :: es) (evs (A :: As)) :=
  leA (pa_cons ha hr hs) fun σ H Q ⟨e, S, φ, er, sr, q⟩ => ⟨e, S, φ, er, sr, PostR.bind q fun w S1 v H1 φ1 x1 s1 r1 q1 => ⟨e, S1, φ1, er.mono x1, s1, q1.bind fun ws S2 vs H2 φ2 x2 s2 r2 q2 => q2.ok_at s2 (.cons (r1.mono x2) r2)⟩⟩
theorem m_N {f : PN} {r : List V → Hp → VK → Prop} (hf : SndN X.K X.mg f r) (hp : PE X c (fun σ H Q => rA X.K X.mg Wx (evs As) σ H fun vs H1 => r vs H1 Q)) : ME X Wx c (eN f As) := leE hp fun σ H Q ⟨e, S, φ, er, sr, q⟩ =>
  ⟨e, S, φ, er, sr, q.bind fun ws S1 vs H1 φ1 x1 s1 r1 q1 => by
    obtain ⟨u, S', h1, h2⟩ := post_lift q1
    exact hf ws S1 u S' H1 φ1 vs Q s1 r1 h1 h2⟩
theorem szv {K : PySem.W.Frag} {mg : Str → Option Value} {H : Hp} {φ : Fi} {ws : List W} {vs : List V} (h : VRs K mg H φ ws vs) (z : ws.length ≤ sizeLine) : vs.length ≤ sizeLine := by rw [← h.length]; exact z
def tupN : PN := fun ws S => if ws.length ≤ sizeLine then some (.tup ws, S) else none
def lstN (m : Bool) : PN := fun ws S => if ws.length ≤ sizeLine then some (mkL m ws S) else none
theorem snd_tup {K : PySem.W.Frag} {mg : Str → Option Value} : SndN K mg tupN (fun vs H Q => vs.length ≤ sizeLine ∧ ∀ p, H p = none → Q (.ref p) (upd H p (.tup vs))) := fun ws S u S' H φ vs Q s r h q => by
  unfold tupN at h
  split at h
  · rename_i hz
    cases h
    refine ⟨szv r hz, fun p hp => ?_⟩
    obtain ⟨x, s'⟩ := s.extra (o := .tup vs) hp
    exact q _ _ _ x s' (by simp only [VR]; exact ⟨p, vs, rfl, .inl upd_same, r.mono x⟩)
  · cases h
/-- a new list: the store's own, or a value -/
theorem new_lst {K : PySem.W.Frag} {mg : Str → Option Value} {H : Hp} {φ : Fi} {S : Store} {ws : List W} {vs : List V} {Q : VK} {m : Bool} (s : SR K mg H φ S) (r : VRs K mg H φ ws vs)
    (q : ∀ z H' φ', Ext H H' φ φ' → SR K mg H' φ' (mkL m ws S).2 → VR K mg H' φ' (mkL m ws S).1 z → Q z H') (p : Addr) (hp : H p = none) : Q (.ref p) (upd H p (.lst vs)) := by
  cases m with
  | true =>
    obtain ⟨x, s', l⟩ := s.push (ob := .lst ws) (o := .lst vs) hp fun H' φ' x' e => ⟨vs, e, r.mono x'⟩
    exact q _ _ _ x s' (by simp only [mkL_t, VR]; exact ⟨p, rfl, l⟩)
  | false =>
    obtain ⟨x, s'⟩ := s.extra (o := .lst vs) hp
    exact q _ _ _ x s' (by simp only [mkL_f, VR]; exact ⟨p, vs, rfl, ⟨s.notin hp, upd_same⟩, r.mono x⟩)
theorem snd_lst {K : PySem.W.Frag} {mg : Str → Option Value} {m : Bool} : SndN K mg (lstN m) (fun vs H Q => vs.length ≤ sizeLine ∧ ∀ p, H p = none → Q (.ref p) (upd H p (.lst vs))) := fun ws S u S' H φ vs Q s r h q => by
  unfold lstN at h
  split at h
  · rename_i hz
    have e := Option.some.inj h
    exact ⟨szv r hz, new_lst (m := m) s r (by rw [e]; exact q)⟩
  · cases h
theorem m_tup {k : Nat} (h : MA X Wx es (evs As)) : ME X Wx (.Tuple es k pos) (eN tupN As) := m_N snd_tup (pe_tup h)
theorem m_lst {m : Bool} (h : MA X Wx es (evs As)) : ME X Wx (.List es pos) (eN (lstN m) As) := m_N snd_lst (pe_lst h)
theorem m_callB {f : PN} {r : List V → Hp → VK → Prop} {x : Str} {id : String} {p : Pos} (hf : SndN X.K X.mg f r) (hc : CallR X (.builtin id) r) (hg : Gl X x) (hm : X.mg x = none) (hv : bootBuiltins x = some (.builtin id)) (ha : MA X Wx (a :: es) (evs As)) (hn : x ≠ "__name__" := by decide) (hdb : (x == ("__debug__" : Str)) = false := by decide)
    (he : starEach (a :: es) X.env = (false, eval a X.env) :: starEach es X.env := by rfl) (hpl : (backTo pos (starEach es X.env)).any (·.1) = false := by rfl) : ME X Wx (.Call (.Name x p) (a :: es) [] pos) (eN f As) :=
  m_N hf (pe_callB hc hg hm hv ha hn hdb he hpl)
theorem m_callTy {f : PN} {r : List V → Hp → VK → Prop} {x : Str} {id : String} {p : Pos} (hf : SndN X.K X.mg f r) (hc : CallR X (.type id) r) (hg : Gl X x) (hm : X.mg x = none) (hv : bootBuiltins x = some (.type id)) (ha : MA X Wx (a :: es) (evs As)) (hn : x ≠ "__name__" := by decide) (hdb : (x == ("__debug__" : Str)) = false := by decide)
    (he : starEach (a :: es) X.env = (false, eval a X.env) :: starEach es X.env := by rfl) (hpl : (backTo pos (starEach es X.env)).any (·.1) = false := by rfl) : ME X Wx (.Call (.Name x p) (a :: es) [] pos) (eN f As) :=
  m_N hf (pe_callTy hc hg hm hv ha hn hdb he hpl)
end
end Sh

set_option Elab.async false
set_option linter.all false
set_option maxRecDepth 100000
set_option maxHeartbeats 2000000
/-! ShS: the rules of statements, loops, comprehensions. -/
namespace Sh
open PySem PySem.Spec PyProof.Rows L2

section
variable {X : Cx} {Wx : WX} {a b c : Expr} {A B : EM} {C : TM} {pos : Pos} {st : Stmt} {rest : List Stmt} {M N : SM}
theorem PostS.seq {K : PySem.W.Frag} {mg : Str → Option Value} {H : Hp} {φ : Fi} {D : Ends} {r : RS} (q : PostS K mg Wx D H φ (r.seq N)) : PostS K mg Wx { D with nx := rS K mg Wx N D } H φ r := by
  cases r with
  | nx e S => exact fun σ' H' φ' x er sr => ⟨e, S, φ', er, sr, PostS.ext x q⟩
  | _ => exact q
theorem ms_nil : MSs X Wx [] sNil := leSs pss_nil fun D σ H ⟨e, S, φ, er, sr, q⟩ => q σ H φ .refl er sr
theorem ms_cons (h1 : MS X Wx st M) (h2 : MSs X Wx rest N) : MSs X Wx (st :: rest) (sSeq M N) := leSs (pss_cons h1 h2) fun D σ H ⟨e, S, φ, er, sr, q⟩ => ⟨e, S, φ, er, sr, PostS.seq q⟩
theorem ms_one (h1 : MS X Wx st M) : MSs X Wx [st] M := pss_one h1
theorem ms_bad : MS X Wx st sBad := leS ps_never fun D σ H ⟨e, S, φ, er, sr, q⟩ => q.elim
theorem mss_bad {sts : List Stmt} : MSs X Wx sts sBad := leSs pss_never fun D σ H ⟨e, S, φ, er, sr, q⟩ => q.elim
theorem ms_pass : MS X Wx (.Pass pos) sNil := leS ps_pass fun D σ H ⟨e, S, φ, er, sr, q⟩ => q σ H φ .refl er sr
theorem ms_brk : MS X Wx (.Break pos) sBrk := leS ps_break fun D σ H ⟨e, S, φ, er, sr, q⟩ => q σ H φ .refl er sr
theorem ms_cnt : MS X Wx (.Continue pos) sCnt := leS ps_continue fun D σ H ⟨e, S, φ, er, sr, q⟩ => q σ H φ .refl er sr
theorem ms_if {p q : List Stmt} (hc : MT X Wx c C) (ha : MSs X Wx p M) (hb : MSs X Wx q N) : MS X Wx (.If c p q pos) (sIf C M N) := leS (ps_if hc ha hb) fun D σ H ⟨e, S, φ, er, sr, q⟩ => ⟨e, S, φ, er, sr, PostS.thn er q fun k S1 v H1 φ1 x1 s1 r1 q1 => by
  subst r1
  cases k with
  | true => rw [if_pos rfl]; exact ⟨e, S1, φ1, er.mono x1, s1, q1⟩
  | false => rw [if_neg Bool.false_ne_true]; exact ⟨e, S1, φ1, er.mono x1, s1, q1⟩⟩
theorem ms_ret (ha : ME X Wx a A) : MS X Wx (.Return (some a) pos) (sRet A) := leS (ps_ret ha) fun D σ H ⟨e, S, φ, er, sr, q⟩ => ⟨e, S, φ, er, sr, PostS.thn er q fun w S1 v H1 φ1 x1 s1 r1 q1 => q1 v H1 φ1 .refl s1 r1⟩
theorem ms_retN : MS X Wx (.Return none pos) sRetN := leS ps_retN fun D σ H ⟨e, S, φ, er, sr, q⟩ => q .non H φ .refl sr (by simp [VR])
theorem ms_expr (ha : ME X Wx a A) (hs : swapsWith a none pos.line X.env = pure false := by rfl) : MS X Wx (.Expr a pos) (sExpr A) := leS (ps_expr ha hs) fun D σ H ⟨e, S, φ, er, sr, q⟩ => ⟨e, S, φ, er, sr, PostS.thn er q fun w S1 v H1 φ1 x1 s1 r1 q1 => q1 σ H1 φ1 .refl (er.mono x1) s1⟩
theorem ms_set {i : Nat} {x : Str} {pos' : Pos} (hN : X.N.Nodup) (hi : X.N[i]? = some x) (hx : Loc X.env.scope x) (ha : ME X Wx a A) (hs : swapsWith a (some (.Name x pos')) pos.line X.env = pure false := by rfl) (hf : X.fn x = true ∨ X.env.scope.names.lookup x = some .local := by first | exact .inl rfl | exact .inr rfl | assumption) :
    MS X Wx (.Assign [.Name x pos'] a pos) (sSet i A) := leS (ps_set hN hi hx ha hs hf) fun D σ H ⟨e, S, φ, er, sr, q⟩ => ⟨e, S, φ, er, sr, PostS.thn er q fun w S1 v H1 φ1 x1 s1 r1 q1 => q1 _ H1 φ1 .refl ((er.mono x1).set r1) s1⟩
/-- y = [..] by the comprehension's own store -/
theorem ms_setV {i : Nat} (h : PS X st (tAsg (rE X.K X.mg Wx A) (gName i))) : MS X Wx st (sSet i A) := leS h fun D σ H ⟨e, S, φ, er, sr, q⟩ => ⟨e, S, φ, er, sr, PostS.thn er q fun w S1 v H1 φ1 x1 s1 r1 q1 => q1 _ H1 φ1 .refl ((er.mono x1).set r1) s1⟩

/-! ### targets -/
def rG (K : PySem.W.Frag) (mg : Str → Option Value) (g : GM) : TG := fun v σ H Q => ∃ w e S φ e' S', VR K mg H φ w v ∧ ER K mg H φ e σ ∧ SR K mg H φ S ∧ g w e S = some (e', S') ∧
  ∀ σ' H' φ', Ext H H' φ φ' → ER K mg H' φ' e' σ' → SR K mg H' φ' S' → Q σ' H'
def rGs (K : PySem.W.Frag) (mg : Str → Option Value) (is : List Nat) : TGs := fun vs σ H Q => ∃ ws e S φ, VRs K mg H φ ws vs ∧ ER K mg H φ e σ ∧ SR K mg H φ S ∧ ws.length = is.length ∧
  ∀ σ' H' φ', Ext H H' φ φ' → ER K mg H' φ' (setVars is ws e) σ' → SR K mg H' φ' S → Q σ' H'
abbrev MG (X : Cx) (t : Expr) (g : GM) : Prop := PG X t (rG X.K X.mg g)
theorem leG {X : Cx} {t : Expr} {g g' : TG} (h : PG X t g) (f : ∀ v σ H Q, g' v σ H Q → g v σ H Q) : PG X t g' := ⟨fun pins s σ H v u Q I r q => h.run pins s σ H v u Q I r (f v σ H Q q)⟩
theorem leGs {X : Cx} {t : List Expr} {g g' : TGs} (h : PGs X t g) (f : ∀ v σ H Q, g' v σ H Q → g v σ H Q) : PGs X t g' := ⟨fun pins s σ H v u Q I r q => h.run pins s σ H v u Q I r (f v σ H Q q)⟩
theorem mg_name {i : Nat} {x : Str} (hN : X.N.Nodup) (hi : X.N[i]? = some x) (hx : Loc X.env.scope x) (hf : X.fn x = true ∨ X.env.scope.names.lookup x = some .local := by first | exact .inl rfl | exact .inr rfl | assumption) : MG X (.Name x pos) (gVar i) :=
  leG (pg_name hN hi hx hf) fun v σ H Q ⟨w, e, S, φ, e', S', r, er, sr, h, q⟩ => by
    cases h
    exact q _ H φ .refl (er.set r) sr
theorem mgs_nil : PGs X [] (rGs X.K X.mg []) := leGs pgs_nil fun vs σ H Q ⟨ws, e, S, φ, r, er, sr, h, q⟩ => by
  have : ws = [] := List.length_eq_zero_iff.mp h
  subst this
  exact ⟨r, q σ H φ .refl er sr⟩
theorem mgs_cons {i : Nat} {is : List Nat} {x : Str} {es : List Expr} (hN : X.N.Nodup) (hi : X.N[i]? = some x) (hx : Loc X.env.scope x) (h2 : PGs X es (rGs X.K X.mg is)) (hf : X.fn x = true ∨ X.env.scope.names.lookup x = some .local := by first | exact .inl rfl | exact .inr rfl | assumption)
    (hs : (assignEach (.Name x pos :: es) X.env).map (·.2) = assign (.Name x pos) X.env :: (assignEach es X.env).map (·.2) := by rfl) : PGs X (.Name x pos :: es) (rGs X.K X.mg (i :: is)) :=
  leGs (pgs_cons (pg_name hN hi hx hf) h2 hs) fun vs σ H Q ⟨ws, e, S, φ, r, er, sr, h, q⟩ => by
    cases ws with
    | nil => cases h
    | cons w ws =>
      simp only [VRs] at r
      obtain ⟨v, r', rfl, r1, r2⟩ := r
      refine ⟨v, r', rfl, ws, e.set i (some w), S, φ, r2, er.set r1, sr, by simpa using h, fun σ' H' φ' x er' sr' => q σ' H' φ' x er' sr'⟩
theorem orG {t : Expr} {g g' : TG} (h : PG X t g) (h' : PG X t g') : PG X t (fun v σ H Q => g v σ H Q ∨ g' v σ H Q) := ⟨fun pins s σ H v u Q I r q => q.elim (h.run pins s σ H v u Q I r) (h'.run pins s σ H v u Q I r)⟩
/-- a, b, .. = a tuple or a list of that length -/
def gRow (is : List Nat) : GM := fun w e S => match w with
  | .tup ws => if ws.length = is.length then some (setVars is ws e, S) else none
  | .lst ws => if ws.length = is.length then some (setVars is ws e, S) else none
  | .ref a => match S[a]? with
    | some (.lst ws) => if ws.length = is.length then some (setVars is ws e, S) else none
    | _ => none
  | _ => none
theorem mg_row {es : List Expr} {k : Nat} {is : List Nat} (hc : X.calm = true) (h : PGs X es (rGs X.K X.mg is)) (hn : (assignEach es X.env).length = is.length := by rfl) (hst : (assignEach es X.env).findIdx? (·.1) = none := by rfl) : MG X (.Tuple es k pos) (gRow is) :=
  leG (orG (pg_tup hc h hn hst) (pg_lst hc h hn hst)) fun v σ H Q ⟨w, e, S, φ, e', S', r, er, sr, h, q⟩ => by
    cases w with
    | tup ws =>
      simp only [VR] at r
      obtain ⟨p, vs, rfl, t, rr⟩ := r
      simp only [gRow] at h
      split at h
      · rename_i hl
        cases h
        exact .inl ⟨p, vs, rfl, t.sq, by rw [← rr.length]; exact hl, ws, e, S, φ, rr, er, sr, hl, q⟩
      · cases h
    | lst ws =>
      simp only [VR] at r
      obtain ⟨p, vs, rfl, t, rr⟩ := r
      simp only [gRow] at h
      split at h
      · rename_i hl
        cases h
        exact .inr ⟨p, vs, rfl, t.sq, by rw [← rr.length]; exact hl, ws, e, S, φ, rr, er, sr, hl, q⟩
      · cases h
    | ref a =>
      simp only [VR] at r
      obtain ⟨p, rfl, t⟩ := r
      obtain ⟨ob, e1, o⟩ := sr.ob t
      simp only [gRow, e1] at h
      cases ob with
      | lst ws =>
        obtain ⟨vs, e2, rr⟩ := o
        dsimp only at h
        split at h
        · rename_i hl
          cases h
          exact .inr ⟨p, vs, rfl, SqL.of e2, by rw [← rr.length]; exact hl, ws, e, S, φ, rr, er, sr, hl, q⟩
        · cases h
      | _ => cases h
    | _ => cases h
theorem ms_asg {t : Expr} {g : GM} (ha : ME X Wx a A) (hg : MG X t g) (hs : swapsWithSole [t] a pos.line X.env = pure false := by rfl) (hw : swappedStores [t] a X.env = pure none := by rfl)
    (h1 : (assignEach [t] X.env).map (·.2) = [assign t X.env] := by rfl) : MS X Wx (.Assign [t] a pos) (sAsg g A) := leS (ps_asg ha hg hs hw h1) fun D σ H ⟨e, S, φ, er, sr, q⟩ => ⟨e, S, φ, er, sr, PostS.thn er q fun w S1 v H1 φ1 x1 s1 r1 q1 => by
  cases h : g w e S1 with
  | none => rw [h] at q1; exact q1.elim
  | some p => rw [h] at q1; exact ⟨w, e, S1, φ1, p.1, p.2, r1, er.mono x1, s1, h, q1⟩⟩
theorem ms_par {i j : Nat} {x y : Str} {px py pt : Pos} {kt k2 pt2} (hc : X.calm = true) (hN : X.N.Nodup) (hi : X.N[i]? = some x) (hj : X.N[j]? = some y) (hij : i ≠ j)
    (hx : X.env.scope.names.lookup x = some .local) (hy : X.env.scope.names.lookup y = some .local) (ha : ME X Wx a A) (hb : ME X Wx b B)
    (hw : swappedStores [.Tuple [.Name x px, .Name y py] kt pt] (.Tuple [a, b] k2 pt2) X.env = pure (some [x, y]))
    (hs : swapsWithSole [.Tuple [.Name x px, .Name y py] kt pt] (.Tuple [a, b] k2 pt2) pos.line X.env = pure false := by rfl)
    (s1 : starEach [a, b] X.env = (false, eval a X.env) :: starEach [b] X.env := by rfl) (s2 : starEach [b] X.env = (false, eval b X.env) :: starEach [] X.env := by rfl) :
    MS X Wx (.Assign [.Tuple [.Name x px, .Name y py] kt pt] (.Tuple [a, b] k2 pt2) pos) (sPar i j A B) := leS (ps_par hc hN hi hj hij hx hy (pa_cons ha (pa_cons hb pa_nil s2) s1) hw hs) fun D σ H ⟨e, S, φ, er, sr, q⟩ => by
  refine ⟨e, S, φ, er, sr, PostS.thn er q fun w S1 v H1 φ1 x1 s1 r1 q1 => ⟨e, S1, φ1, er.mono x1, s1, PostS.thn (er.mono x1) q1 fun w2 S2 v2 H2 φ2 x2 s2 r2 q2 => ?_⟩⟩
  exact ⟨v, v2, rfl, q2 _ H2 φ2 .refl ((((er.mono x1).mono x2).set (r1.mono x2)).set r2) s2⟩
/-- name op= e -/
theorem ms_aug {i : Nat} {x : Str} {op : Operator} {ti : TIp} {f : P2} {pos' : Pos} (hN : X.N.Nodup) (hi : X.N[i]? = some x) (hx : Loc X.env.scope x) (ha : ME X Wx a A) (ho : PIp X op ti) (hf : Snd2 X.K X.mg f (fun v u H Q => ti v u H Q)) (hfn : X.fn x = true ∨ X.env.scope.names.lookup x = some .local := by first | exact .inl rfl | exact .inr rfl | assumption) :
    MS X Wx (.AugAssign (.Name x pos') op a pos) (sAug i f A) := leS (ps_aug hN hi hx ha ho hfn) fun D σ H ⟨e, S, φ, er, sr, q⟩ => by
  simp only [sAug] at q
  split at q
  · rename_i w hw
    obtain ⟨v, e1, r⟩ := er.at_ i w hw
    refine ⟨v, e1, e, S, φ, er, sr, PostS.thn er q fun w1 S1 v1 H1 φ1 x1 s1 r1 q1 => ?_⟩
    cases h : f w w1 S1 with
    | none => rw [h] at q1; exact q1.elim
    | some p =>
      rw [h] at q1
      exact hf w w1 S1 p.1 p.2 H1 φ1 v v1 _ s1 (r.mono x1) r1 h fun z H2 φ2 x2 s2 r2 => q1 _ H2 φ2 x2 (((er.mono x1).mono x2).set r2) s2
  · exact q.elim
def Snd3 (K : PySem.W.Frag) (mg : Str → Option Value) (f : P3) (t : TSet) : Prop := ∀ x y v S S' H φ xo yo vo Q, SR K mg H φ S → VR K mg H φ x xo → VR K mg H φ y yo → VR K mg H φ v vo → f x y v S = some S' →
  (∀ H' φ', Ext H H' φ φ' → SR K mg H' φ' S' → Q H') → t xo yo vo H Q
theorem ms_setIx {o i : Expr} {O I : EM} {f : P3} {t : TSet} {tpos : Pos} (ho : ME X Wx o O) (hi : ME X Wx i I) (ha : ME X Wx a A) (hs : PSet X t) (hf : Snd3 X.K X.mg f t)
    (hss : ∀ v, assign (.Subscript o i tpos) X.env v = (do
      let ov ← holding [v] (eval o X.env)
      let iv ← holding [v, ov] (eval i X.env)
      standAt tpos
      holding [v, ov, iv] (setItem ov iv v)
      release [v, ov, iv] []) := by intro _; rfl)
    (h1 : swapsWithSole [.Subscript o i tpos] a pos.line X.env = pure false := by rfl) (hw : swappedStores [.Subscript o i tpos] a X.env = pure none := by rfl)
    (h2 : (assignEach [.Subscript o i tpos] X.env).map (·.2) = [assign (.Subscript o i tpos) X.env] := by rfl) : MS X Wx (.Assign [.Subscript o i tpos] a pos) (sSetIx f O I A) :=
  leS (ps_asg ha (pg_sub ho hi hs hss) h1 hw h2) fun D σ H ⟨e, S, φ, er, sr, q⟩ => ⟨e, S, φ, er, sr, PostS.thn er q fun w S1 v H1 φ1 x1 s1 r1 q1 => by
    refine ⟨e, S1, φ1, er.mono x1, s1, PostS.thn (er.mono x1) q1 fun wo S2 vo H2 φ2 x2 s2 r2 q2 => ?_⟩
    refine ⟨e, S2, φ2, (er.mono x1).mono x2, s2, PostS.thn ((er.mono x1).mono x2) q2 fun wi S3 vi H3 φ3 x3 s3 r3 q3 => ?_⟩
    cases h : f wo wi w S3 with
    | none => rw [h] at q3; exact q3.elim
    | some S4 =>
      rw [h] at q3
      exact hf wo wi w S3 S4 H3 φ3 vo vi v _ s3 (r2.mono x3) r3 ((r1.mono x2).mono x3) h fun H4 φ4 x4 s4 => q3 σ H4 φ4 x4 ((((er.mono x1).mono x2).mono x3).mono x4) s4⟩

/-! ### what is walked -/
def JR (K : PySem.W.Frag) (mg : Str → Option Value) (H0 : Hp) (φ0 : Fi) (J : ItM) (Jr : It) : Prop := ∀ i S H φ, Mon H0 H φ0 φ → SR K mg H φ S → match J i S with
  | none => True
  | some none => Jr.stop i H
  | some (some w) => Jr.go i H ∧ ∀ x H', Jr.yld i H x H' → H' = H ∧ VR K mg H φ w x
def rIt (K : PySem.W.Frag) (mg : Str → Option Value) (Wx : WX) (m : IM) : TI := fun σ H R => ∃ e S φ, ER K mg H φ e σ ∧ SR K mg H φ S ∧ PostR K mg Wx (JR K mg) σ H φ R (m e S)
abbrev MI (X : Cx) (Wx : WX) (tg iter : Expr) (m : IM) : Prop := PI X tg iter (rIt X.K X.mg Wx m)
theorem leI {X : Cx} {t x : Expr} {g g' : TI} (h : PI X t x g) (f : ∀ σ H R, g' σ H R → g σ H R) : PI X t x g' := ⟨fun pins s σ H R I q => h.run pins s σ H R I (f σ H R q)⟩
theorem jr_tup {K : PySem.W.Frag} {mg : Str → Option Value} {H : Hp} {φ : Fi} {p : Addr} {ws : List W} {vs : List V} (t : SqU K H p vs) (r : VRs K mg H φ ws vs) : JR K mg H φ (itT ws) (Itt K p) := fun i S H1 φ1 x s => by
  simp only [itT]
  cases e : ws[i]? with
  | none => exact ⟨vs, (x.rdT t).sq, List.getElem?_eq_none_iff.mp (r.none e)⟩
  | some w =>
    obtain ⟨v, e1, rv⟩ := r.get e
    refine ⟨⟨vs, v, (x.rdT t).sq, e1⟩, fun y H' ⟨eh, hy⟩ => ?_⟩
    subst eh
    have := hy vs (x.rdT t).sq
    rw [e1] at this; cases this
    exact ⟨rfl, rv.monoM x⟩
theorem jr_val {K : PySem.W.Frag} {mg : Str → Option Value} {H : Hp} {φ : Fi} {p : Addr} {ws : List W} {vs : List V} (t : SqW H φ p vs) (r : VRs K mg H φ ws vs) : JR K mg H φ (itT ws) (Itl K p) := fun i S H1 φ1 x s => by
  simp only [itT]
  cases e : ws[i]? with
  | none => exact ⟨vs, (x.rdW t).sq, List.getElem?_eq_none_iff.mp (r.none e)⟩
  | some w =>
    obtain ⟨v, e1, rv⟩ := r.get e
    refine ⟨⟨vs, v, (x.rdW t).sq, e1⟩, fun y H' ⟨eh, hy⟩ => ?_⟩
    subst eh
    have := hy vs (x.rdW t).sq
    rw [e1] at this; cases this
    exact ⟨rfl, rv.monoM x⟩
theorem jr_scr {K : PySem.W.Frag} {mg : Str → Option Value} {H : Hp} {φ : Fi} {p : Addr} {ns : List Int} (t : SqF K H p (ns.map V.int)) : JR K mg H φ (itT (ns.map W.int)) (Itl K p) := fun i S H1 φ1 x s => by
  simp only [itT]
  have r : VRs K mg H1 φ1 (ns.map W.int) (ns.map V.int) := VRs.ints ns
  cases e : (ns.map W.int)[i]? with
  | none => exact ⟨_, (x.rdF t).sq, List.getElem?_eq_none_iff.mp (r.none e)⟩
  | some w =>
    obtain ⟨v, e1, rv⟩ := r.get e
    refine ⟨⟨_, v, (x.rdF t).sq, e1⟩, fun y H' ⟨eh, hy⟩ => ?_⟩
    subst eh
    have := hy _ (x.rdF t).sq
    rw [e1] at this; cases this
    exact ⟨rfl, rv⟩
theorem jr_lst {K : PySem.W.Frag} {mg : Str → Option Value} {H : Hp} {φ : Fi} {p : Addr} {a : Nat} (t : φ.t[a]? = some p) : JR K mg H φ (itL a) (Itl K p) := fun i S H1 φ1 x s => by
  simp only [itL]
  cases e : S[a]? with
  | none => trivial
  | some ob =>
    cases ob with
    | lst ws =>
      obtain ⟨vs, e2, r⟩ := s.at_ a _ p e (x.get t)
      have q : SqL K H1 p vs := SqL.of e2
      dsimp only
      cases e3 : ws[i]? with
      | none => exact ⟨vs, q, List.getElem?_eq_none_iff.mp (r.none e3)⟩
      | some w =>
        obtain ⟨v, e1, rv⟩ := r.get e3
        refine ⟨⟨vs, v, q, e1⟩, fun y H' ⟨eh, hy⟩ => ?_⟩
        subst eh
        have := hy vs q
        rw [e1] at this; cases this
        exact ⟨rfl, rv⟩
    | _ => trivial
theorem jr_rng {K : PySem.W.Frag} {mg : Str → Option Value} {H : Hp} {φ : Fi} {lo : Int} {n : Nat} : JR K mg H φ (itR lo n) (Itr lo n) := fun i S H1 φ1 x s => by
  simp only [itR]
  by_cases h : i < n
  · rw [if_pos h]
    refine ⟨h, fun y H' ⟨eh, hy⟩ => ?_⟩
    subst eh; subst hy
    exact ⟨rfl, by simp [VR]⟩
  · rw [if_neg h]
    exact Nat.le_of_not_lt h
theorem jr_str {K : PySem.W.Frag} {mg : Str → Option Value} {H : Hp} {φ : Fi} {x : Str} : JR K mg H φ (itT (x.cps.toList.map chrW)) (Its x) := fun i S H1 φ1 x1 s => by
  simp only [itT, List.getElem?_map, Array.getElem?_toList]
  cases e : x.cps[i]? with
  | none => exact Array.getElem?_eq_none_iff.mp e
  | some c =>
    refine ⟨(Array.getElem?_eq_some_iff.mp e).1, fun y H' ⟨eh, c', e', hy⟩ => ?_⟩
    subst eh; subst hy
    rw [e] at e'; cases e'
    exact ⟨rfl, by simp [VR, chrW]⟩
/-- a value is walked: a tuple, a list, a text -/
theorem pi_any {tg l : Expr} {tl : TE} (hl : PE X l tl) : PI X tg l (fun σ H R => tl σ H fun x H1 => (∃ a, x = .ref a ∧ (∃ xs, SqL X.K H1 a xs) ∧ R (Itl X.K a) H1) ∨ (∃ a, x = .ref a ∧ (∃ xs, SqT X.K H1 a xs) ∧ R (Itt X.K a) H1) ∨ ∃ z, x = .str z ∧ R (Its z) H1) := by
  refine ⟨fun pins s σ H R I h => ?_⟩
  refine thn (hl.run pins s σ H _ I h) fun v s1 ⟨x, H1, I1, r1, q1⟩ => ?_
  rcases q1 with ⟨a, e, ⟨xs, hq⟩, q⟩ | ⟨a, e, ⟨xs, hq⟩, q⟩ | ⟨z, e, q⟩
  · subst e
    cases r1
    obtain ⟨its, rv, p, hz⟩ := I1.list hq
    refine wpAny_pyIter_list p.isList ?_
    refine ⟨s1.heap.objs.size, [s1.heap.objs.size], _, _, H1, rfl, I1.kept (t' := s1.toks) fun b o e => Heap.get?_push_of_some _ e, turn_list a _, ⟨_, Heap.get?_push_size _ rfl, rfl, rfl⟩, fun b hb => ?_, q⟩
    have e : b = s1.heap.objs.size := by simpa using hb
    subst e
    exact I1.fpOk (Nat.le_refl _) (I1.hok.fresh (Nat.le_refl _))
  · subst e
    cases r1
    obtain ⟨its, rv, p, hz⟩ := I1.tuple hq
    refine wpAny_pyIter_tuple (show s1.heap.IsTuple a its.toArray from p) ?_
    refine ⟨s1.heap.objs.size, [s1.heap.objs.size], _, _, H1, rfl, I1.kept (t' := s1.toks) fun b o e => Heap.get?_push_of_some _ e, turn_tuple a _, ⟨_, Heap.get?_push_size _ rfl, rfl, rfl⟩, fun b hb => ?_, q⟩
    have e : b = s1.heap.objs.size := by simpa using hb
    subst e
    exact I1.fpOk (Nat.le_refl _) (I1.hok.fresh (Nat.le_refl _))
  · subst e
    obtain ⟨t, rfl⟩ := r1
    cases ha : z.cps.all (· < 128)
    · exact wpAny_pyIter_wide ha (pi_one (tk := s1.toks) I1 _ (turn_str _ z t "str_iterator" (.inr rfl)) ⟨_, Heap.get?_push_size _ rfl, rfl, rfl⟩ q)
    · exact wpAny_pyIter_ascii ha (pi_one (tk := s1.toks) I1 _ (turn_str _ z t "str_ascii_iterator" (.inl rfl)) ⟨_, Heap.get?_push_size _ rfl, rfl, rfl⟩ q)
theorem mi_any {tg : Expr} (ha : ME X Wx a A) : MI X Wx tg a (iE A) := leI (pi_any ha) fun σ H R ⟨e, S, φ, er, sr, q⟩ => ⟨e, S, φ, er, sr, PostR.bind q fun w S1 v H1 φ1 x1 s1 r1 q1 => by
  cases w with
  | tup ws =>
    simp only [VR] at r1
    obtain ⟨p, vs, rfl, t, rr⟩ := r1
    exact .inr (.inl ⟨p, rfl, ⟨vs, t.sq⟩, q1 (Itt X.K p) H1 φ1 .refl s1 (jr_tup t rr)⟩)
  | scr ns =>
    simp only [VR] at r1
    obtain ⟨p, rfl, t⟩ := r1
    exact .inl ⟨p, rfl, ⟨_, t.sq⟩, q1 (Itl X.K p) H1 φ1 .refl s1 (jr_scr t)⟩
  | lst ws =>
    simp only [VR] at r1
    obtain ⟨p, vs, rfl, t, rr⟩ := r1
    exact .inl ⟨p, rfl, ⟨vs, t.sq⟩, q1 (Itl X.K p) H1 φ1 .refl s1 (jr_val t rr)⟩
  | str z => exact .inr (.inr ⟨z, r1, q1 (Its z) H1 φ1 .refl s1 jr_str⟩)
  | ref a =>
    simp only [VR] at r1
    obtain ⟨p, rfl, t⟩ := r1
    obtain ⟨ob, e1, o⟩ := s1.ob t
    simp only [iterW, e1] at q1
    cases ob with
    | lst ws =>
      obtain ⟨vs, e2, rr⟩ := o
      exact .inl ⟨p, rfl, ⟨vs, SqL.of e2⟩, q1 (Itl X.K p) H1 φ1 .refl s1 (jr_lst t)⟩
    | _ => exact q1.elim
  | _ => exact q1.elim⟩
theorem big_eq : big = 2 ^ 62 := big_def
theorem mi_range1 {tg : Expr} {p : Pos} (hg : Gl X "range") (hm : X.mg "range" = none) (ha : ME X Wx a A) (hs : starEach [a] X.env = [(false, eval a X.env)] := by rfl) : MI X Wx tg (.Call (.Name "range" p) [a] [] pos) (iRange1 A) :=
  leI (pi_range1 hg hm (pa_cons ha pa_nil hs) hs) fun σ H R ⟨e, S, φ, er, sr, q⟩ => ⟨e, S, φ, er, sr, PostR.bind q fun w S1 v H1 φ1 x1 s1 r1 q1 => by
    cases w with
    | int n =>
      cases (show v = .int n from r1)
      dsimp only at q1
      unfold rngJ at q1
      split at q1
      · rename_i hz
        rw [big_eq] at hz
        rw [Int.sub_zero] at q1
        exact ⟨n, rfl, hz.2.2.1, hz.2.2.2, q1 (Itr 0 n.toNat) H1 φ1 .refl s1 jr_rng⟩
      · exact q1.elim
    | _ => exact q1.elim⟩
theorem mi_range2 {tg : Expr} {p : Pos} (hg : Gl X "range") (hm : X.mg "range" = none) (ha : ME X Wx a A) (hb : ME X Wx b B) (hs : starEach [a, b] X.env = [(false, eval a X.env), (false, eval b X.env)] := by rfl) (hs2 : starEach [b] X.env = [(false, eval b X.env)] := by rfl) : MI X Wx tg (.Call (.Name "range" p) [a, b] [] pos) (iRange2 A B) :=
  leI (pi_range2 hg hm (pa_cons ha (pa_cons hb pa_nil hs2) (by rw [hs, hs2])) hs hs2) fun σ H R ⟨e, S, φ, er, sr, q⟩ => ⟨e, S, φ, er, sr, PostR.bind q fun w S1 v H1 φ1 x1 s1 r1 q1 => ⟨e, S1, φ1, er.mono x1, s1, q1.bind fun w2 S2 v2 H2 φ2 x2 s2 r2 q2 => by
    cases w with
    | int m =>
      cases w2 with
      | int n =>
        cases (show v = .int m from r1)
        cases (show v2 = .int n from r2)
        dsimp only at q2
        unfold rngJ at q2
        split at q2
        · rename_i hz
          rw [big_eq] at hz
          exact ⟨m, n, rfl, hz, q2 (Itr m (n - m).toNat) H2 φ2 .refl s2 jr_rng⟩
        · exact q2.elim
      | _ => exact q2.elim
    | _ => exact q2.elim⟩⟩

/-! ### for, while -/
theorem ms_for {tg iter : Expr} {body : List Stmt} {it : IM} {g : GM} (hp : PassesOwn (model X.prog X.w) X.A X.env X.xe) (hc : X.calm = true) (hi : MI X Wx tg iter it) (hg : MG X tg g) (hb : MSs X Wx body M)
    (hs : ∀ x, foldedSetIterable iter X.env x = pure x := by intro _; rfl) : MS X Wx (.For tg iter body [] pos) (sFor it g M) := leS (ps_for hp hc hi hg hb hs) fun D σ H ⟨e, S, φ, er, sr, q⟩ => by
  refine ⟨e, S, φ, er, sr, PostS.thn er q fun J S1 Jr H1 φ1 x1 s1 jr q1 => ?_⟩
  refine ⟨fun i m σ2 H2 => ∃ e2 S2 φ2, Ext H1 H2 φ1 φ2 ∧ ER X.K X.mg H2 φ2 e2 σ2 ∧ SR X.K X.mg H2 φ2 S2 ∧ PostS X.K X.mg Wx D H2 φ2 (forN J g M m i e2 S2), ⟨fuel, e, S1, φ1, .refl, er.mono x1, s1, q1⟩, ?_⟩
  rintro i m σ2 H2 ⟨e2, S2, φ2, x2, er2, s2, q2⟩
  cases m with
  | zero => exact q2.elim
  | succ m =>
    have j := jr i S2 H2 φ2 x2.mon s2
    simp only [forN] at q2
    cases hj : J i S2 with
    | none => simp only [hj] at q2; exact q2.elim
    | some o =>
      rw [hj] at j
      simp only [hj] at q2
      cases o with
      | none => exact .inl ⟨j, q2 σ2 H2 φ2 .refl er2 s2⟩
      | some w =>
        obtain ⟨jg, jy⟩ := j
        refine .inr ⟨jg, fun σ' H' => ∃ e3 S3 φ3, Ext H1 H' φ1 φ3 ∧ ER X.K X.mg H' φ3 e3 σ' ∧ SR X.K X.mg H' φ3 S3 ∧ PostS X.K X.mg Wx D H' φ3 (forN J g M m (i + 1) e3 S3), fun σ' H' h => ⟨m, Nat.lt_succ_self m, h⟩, fun y H3 hy => ?_⟩
        obtain ⟨eH3, r3⟩ := jy y H3 hy
        subst eH3
        have x3 : Ext H3 H3 φ2 φ2 := .refl
        have s3 := s2
        dsimp only at q2
        cases hgw : g w e2 S2 with
        | none => simp only [hgw] at q2; exact q2.elim
        | some p =>
          obtain ⟨e4, S4⟩ := p
          simp only [hgw] at q2
          refine ⟨w, e2, S2, φ2, e4, S4, r3, er2.mono x3, s3, hgw, fun σ5 H5 φ5 x5 er5 s5 => ⟨e4, S4, φ5, er5, s5, ?_⟩⟩
          have xx := (x2.trans x3).trans x5
          have q5 := PostS.ext (x3.trans x5) q2
          cases hM : M e4 S4 with
          | nx e6 S6 => rw [hM] at q5; exact fun σ' H' φ' x er' sr' => ⟨e6, S6, φ', xx.trans x, er', sr', PostS.ext x q5⟩
          | cnt e6 S6 => rw [hM] at q5; exact fun σ' H' φ' x er' sr' => ⟨e6, S6, φ', xx.trans x, er', sr', PostS.ext x q5⟩
          | brk e6 S6 => rw [hM] at q5; exact q5
          | ret w S6 => rw [hM] at q5; exact q5
          | exc z e6 S6 => rw [hM] at q5; exact q5
          | bad => rw [hM] at q5; exact q5
theorem ms_while {body : List Stmt} (hp : PassesOwn (model X.prog X.w) X.A X.env X.xe) (hc : MT X Wx c C) (hb : MSs X Wx body M) : MS X Wx (.While c body [] pos) (sWhile C M) := leS (ps_while hp hc hb) fun D σ H ⟨e, S, φ, er, sr, q⟩ => by
  refine ⟨fun m σ2 H2 => ∃ e2 S2 φ2, ER X.K X.mg H2 φ2 e2 σ2 ∧ SR X.K X.mg H2 φ2 S2 ∧ PostS X.K X.mg Wx D H2 φ2 (whileN C M m e2 S2), ⟨fuel, e, S, φ, er, sr, q⟩, ?_⟩
  rintro m σ2 H2 ⟨e2, S2, φ2, er2, s2, q2⟩
  cases m with
  | zero => exact q2.elim
  | succ m =>
    simp only [whileN] at q2
    refine ⟨e2, S2, φ2, er2, s2, ?_⟩
    cases hC : C e2 S2 with
    | bad => simp only [hC] at q2; exact q2
    | exc x S3 => simp only [hC] at q2; exact fun c d H3 φ3 x3 s3 r3 => q2 c d σ2 H3 φ3 x3 (er2.mono x3) s3 r3
    | ok k S3 =>
      simp only [hC] at q2
      intro v H3 φ3 x3 s3 r3
      subst r3
      have q3 := PostS.ext x3 q2
      cases k with
      | false =>
        rw [if_neg Bool.false_ne_true] at q3 ⊢
        exact q3 σ2 H3 φ3 .refl (er2.mono x3) s3
      | true =>
        rw [if_pos rfl] at q3 ⊢
        refine ⟨fun σ' H' => ∃ e4 S4 φ4, ER X.K X.mg H' φ4 e4 σ' ∧ SR X.K X.mg H' φ4 S4 ∧ PostS X.K X.mg Wx D H' φ4 (whileN C M m e4 S4), fun σ' H' h => ⟨m, Nat.lt_succ_self m, h⟩, e2, S3, φ3, er2.mono x3, s3, ?_⟩
        cases hM : M e2 S3 with
        | nx e6 S6 => rw [hM] at q3; exact fun σ' H' φ' x er' sr' => ⟨e6, S6, φ', er', sr', PostS.ext x q3⟩
        | cnt e6 S6 => rw [hM] at q3; exact fun σ' H' φ' x er' sr' => ⟨e6, S6, φ', er', sr', PostS.ext x q3⟩
        | brk e6 S6 => rw [hM] at q3; exact q3
        | ret w S6 => rw [hM] at q3; exact q3
        | exc z e6 S6 => rw [hM] at q3; exact q3
        | bad => rw [hM] at q3; exact q3

/-! ### comprehensions -/
theorem noexc_ok {α : Type} {r : R α} {a : α} {S : Store} (h : r.noexc = .ok a S) : r = .ok a S := by
  cases r with
  | ok b T => exact h
  | exc x T => cases h
  | bad => cases h
theorem wipe_get {σ : L2.St} {i : Nat} : ∀ {vs : List Nat}, (wipe σ vs)[i]? = if i ∈ vs then σ[i]?.map (fun _ => none) else σ[i]?
  | [] => by simp [wipe]
  | v :: vs => by
    unfold wipe
    rw [List.getElem?_set]
    by_cases hv : v = i
    · subst hv
      rw [if_pos rfl, if_pos List.mem_cons_self, wipe_length]
      by_cases hl : v < σ.length
      · rw [if_pos hl, List.getElem?_eq_getElem hl]; rfl
      · rw [if_neg hl, List.getElem?_eq_none (by omega)]; rfl
    · rw [if_neg hv, wipe_get (vs := vs)]
      by_cases hm : i ∈ vs
      · rw [if_pos hm, if_pos (List.mem_cons_of_mem _ hm)]
      · rw [if_neg hm, if_neg (by simp only [List.mem_cons, not_or]; exact ⟨fun e => hv e.symm, hm⟩)]
theorem wipe_wipe {σ : L2.St} {vs : List Nat} : wipe (wipe σ vs) vs = wipe σ vs := by
  apply List.ext_getElem?
  intro i
  rw [wipe_get, wipe_get]
  split
  · cases σ[i]? <;> rfl
  · rfl
theorem wipe_set {σ : L2.St} {vs : List Nat} {i : Nat} {x : Option V} (h : i ∈ vs) : wipe (σ.set i x) vs = wipe σ vs := by
  apply List.ext_getElem?
  intro j
  rw [wipe_get, wipe_get]
  by_cases e : i = j
  · subst e
    rw [if_pos h, if_pos h, List.getElem?_set]
    simp only [if_true]
    by_cases hl : i < σ.length
    · simp [hl]
    · simp [hl]
  · rw [List.getElem?_set_ne e]
/-- a target in a comprehension: its own names -/
def rGo (K : PySem.W.Frag) (mg : Str → Option Value) (own : List Nat) (g : GM) : TG := fun v σ H Q => ∃ w e S φ e' S', VR K mg H φ w v ∧ ER K mg H φ e σ ∧ SR K mg H φ S ∧ g w e S = some (e', S') ∧
  ∀ σ' H' φ', Ext H H' φ φ' → ER K mg H' φ' e' σ' → SR K mg H' φ' S' → wipe σ' own = wipe σ own → Q σ' H'
def rGos (K : PySem.W.Frag) (mg : Str → Option Value) (own is : List Nat) : TGs := fun vs σ H Q => ∃ ws e S φ, VRs K mg H φ ws vs ∧ ER K mg H φ e σ ∧ SR K mg H φ S ∧ ws.length = is.length ∧
  ∀ σ' H' φ', Ext H H' φ φ' → ER K mg H' φ' (setVars is ws e) σ' → SR K mg H' φ' S → wipe σ' own = wipe σ own → Q σ' H'
abbrev MGo (X : Cx) (own : List Nat) (t : Expr) (g : GM) : Prop := PG X t (rGo X.K X.mg own g)
theorem mgo_name {own : List Nat} {i : Nat} {x : Str} (ho : i ∈ own) (hN : X.N.Nodup) (hi : X.N[i]? = some x) (hx : Loc X.env.scope x) (hf : X.fn x = true ∨ X.env.scope.names.lookup x = some .local := by first | exact .inl rfl | exact .inr rfl | assumption) : MGo X own (.Name x pos) (gVar i) :=
  leG (pg_name hN hi hx hf) fun v σ H Q ⟨w, e, S, φ, e', S', r, er, sr, h, q⟩ => by
    cases h
    exact q _ H φ .refl (er.set r) sr (wipe_set ho)
theorem mgos_nil {own : List Nat} : PGs X [] (rGos X.K X.mg own []) := leGs pgs_nil fun vs σ H Q ⟨ws, e, S, φ, r, er, sr, h, q⟩ => by
  have : ws = [] := List.length_eq_zero_iff.mp h
  subst this
  exact ⟨r, q σ H φ .refl er sr rfl⟩
theorem mgos_cons {own : List Nat} {i : Nat} {is : List Nat} {x : Str} {es : List Expr} (ho : i ∈ own) (hN : X.N.Nodup) (hi : X.N[i]? = some x) (hx : Loc X.env.scope x) (h2 : PGs X es (rGos X.K X.mg own is)) (hf : X.fn x = true ∨ X.env.scope.names.lookup x = some .local := by first | exact .inl rfl | exact .inr rfl | assumption)
    (hs : (assignEach (.Name x pos :: es) X.env).map (·.2) = assign (.Name x pos) X.env :: (assignEach es X.env).map (·.2) := by rfl) : PGs X (.Name x pos :: es) (rGos X.K X.mg own (i :: is)) :=
  leGs (pgs_cons (pg_name hN hi hx hf) h2 hs) fun vs σ H Q ⟨ws, e, S, φ, r, er, sr, h, q⟩ => by
    cases ws with
    | nil => cases h
    | cons w ws =>
      simp only [VRs] at r
      obtain ⟨v, r', rfl, r1, r2⟩ := r
      refine ⟨v, r', rfl, ws, e.set i (some w), S, φ, r2, er.set r1, sr, by simpa using h, fun σ' H' φ' x er' sr' hw => q σ' H' φ' x er' sr' (hw.trans (wipe_set ho))⟩
theorem mgo_row {own : List Nat} {es : List Expr} {k : Nat} {is : List Nat} (hc : X.calm = true) (h : PGs X es (rGos X.K X.mg own is)) (hn : (assignEach es X.env).length = is.length := by rfl) (hst : (assignEach es X.env).findIdx? (·.1) = none := by rfl) : MGo X own (.Tuple es k pos) (gRow is) :=
  leG (orG (pg_tup hc h hn hst) (pg_lst hc h hn hst)) fun v σ H Q ⟨w, e, S, φ, e', S', r, er, sr, h, q⟩ => by
    cases w with
    | tup ws =>
      simp only [VR] at r
      obtain ⟨p, vs, rfl, t, rr⟩ := r
      simp only [gRow] at h
      split at h
      · rename_i hl
        cases h
        exact .inl ⟨p, vs, rfl, t.sq, by rw [← rr.length]; exact hl, ws, e, S, φ, rr, er, sr, hl, q⟩
      · cases h
    | lst ws =>
      simp only [VR] at r
      obtain ⟨p, vs, rfl, t, rr⟩ := r
      simp only [gRow] at h
      split at h
      · rename_i hl
        cases h
        exact .inr ⟨p, vs, rfl, t.sq, by rw [← rr.length]; exact hl, ws, e, S, φ, rr, er, sr, hl, q⟩
      · cases h
    | ref a =>
      simp only [VR] at r
      obtain ⟨p, rfl, t⟩ := r
      obtain ⟨ob, e1, o⟩ := sr.ob t
      simp only [gRow, e1] at h
      cases ob with
      | lst ws =>
        obtain ⟨vs, e2, rr⟩ := o
        dsimp only at h
        split at h
        · rename_i hl
          cases h
          exact .inr ⟨p, vs, rfl, SqL.of e2, by rw [← rr.length]; exact hl, ws, e, S, φ, rr, er, sr, hl, q⟩
        · cases h
      | _ => cases h
    | _ => cases h
abbrev NoX : WX := fun _ _ _ _ => False
/-- what the loop of a comprehension keeps: D is hidden -/
theorem Ext.hideTrans {H1 H2 H3 : Hp} {φ1 φ2 φ3 : Fi} {D : Addr} (x : Ext H1 H2 (Fi.hide φ1 D) φ2) (y : Ext H2 H3 φ2 φ3) : Ext H1 H3 (Fi.hide φ1 D) φ3 := x.trans y
theorem lc_read {K : PySem.W.Frag} {mg : Str → Option Value} {it : IM} {own : List Nat} {g : GM} {t : TM} {a : EM} {σ : L2.St} {H : Hp} {Q : VK} {m : Bool} (h : rE K mg Wx (eLc m it own g t a) σ H Q) :
    tLc (rIt K mg Wx it) (rGo K mg own g) (rT K mg NoX t) (rE K mg NoX a) own σ H Q := by
  obtain ⟨e, S, φ, er, sr, q⟩ := h
  refine ⟨e, S, φ, er, sr, PostR.bind q fun J S1 Jr H1 φ1 x1 s1 jr q1 => ?_⟩
  intro D hD
  cases hl : lcN J g t a (wipeE e own) fuel 0 [] S1 with
  | bad => rw [hl] at q1; exact q1.elim
  | exc _ _ => rw [hl] at q1; exact q1.elim
  | ok xs S9 =>
    rw [hl] at q1
    obtain ⟨x0, s0⟩ := s1.hideNew (o := .lst []) hD
    have nD := s1.notin hD
    -- what the loop keeps of the heap behind the iterator: as Ext, but for D
    let Kp : Hp → Fi → Prop := fun H2 φ2 => (∃ l, φ2.t = φ1.t ++ l) ∧ φ2.h = D :: φ1.h ∧ (∀ p o, H1 p = some o → p ∉ φ1.t → H2 p = some o) ∧ (∀ p, p ∈ φ2.t → p ∉ φ1.t → H1 p = none ∧ p ≠ D) ∧ (∀ p ys, H1 p = some (.tup ys) → H2 p = some (.tup ys)) ∧ ∀ p o u, H1 p = some (.frz o u) → H2 p = some (.frz o u)
    have kp0 : Kp (upd H1 D (.lst [])) (φ1.hide D) := ⟨⟨[], by simp [Fi.hide]⟩, rfl, fun p o h _ => by rw [upd_ne (ne_of_none h hD)]; exact h, fun p h n => absurd h n, fun p ys h => by rw [upd_ne (ne_of_none h hD)]; exact h, fun p o u h => by rw [upd_ne (ne_of_none h hD)]; exact h⟩
    have kpx : ∀ {H2 H3 φ2 φ3}, Kp H2 φ2 → H2 D ≠ none → Ext H2 H3 φ2 φ3 → Kp H3 φ3 := by
      rintro H2 H3 φ2 φ3 ⟨⟨l, e1⟩, e2, e3, e4, e5, e6⟩ hd y
      obtain ⟨l', e1'⟩ := y.pre
      refine ⟨⟨l ++ l', by rw [e1', e1, List.append_assoc]⟩, y.hid.trans e2, fun p o hp n => ?_, fun p hp n => ?_, fun p ys hp => y.tup _ _ (e5 p ys hp), fun p o u hp => y.frz _ _ _ (e6 p o u hp)⟩
      · refine y.fr p o (e3 p o hp n) fun z => ?_
        have := (e4 p z n).1
        rw [hp] at this; cases this
      · by_cases hp2 : p ∈ φ2.t
        · exact e4 p hp2 n
        · have z := y.new p hp hp2
          refine ⟨?_, fun e => ?_⟩
          · cases q : H1 p with
            | none => rfl
            | some o => rw [e3 p o q n] at z; cases z
          · subst e; exact hd z
    -- values of the iterator's heap are values now
    have kpm : ∀ {H2 φ2}, Kp H2 φ2 → Ext H1 H2 φ1 ⟨φ2.t, φ1.h⟩ := by
      rintro H2 φ2 ⟨e1, e2, e3, e4, e5, e6⟩
      exact ⟨e1, rfl, e3, fun p hp n => (e4 p hp n).1, e5, e6⟩
    have hideV : ∀ {H2 φ2}, Kp H2 φ2 → H2 D ≠ none → Mon H1 H2 φ1 φ2 := by
      rintro H2 φ2 ⟨e1, e2, e3, e4, e5, e6⟩ hd
      refine ⟨e1, fun p o hp n => ⟨e3 p o hp n.1, fun z => ?_, fun z => ?_⟩, e5, e6⟩
      · have := (e4 p z n.1).1
        rw [hp] at this; cases this
      · rw [e2] at z
        rcases List.mem_cons.mp z with z | z
        · subst z; rw [hD] at hp; cases hp
        · exact n.2 z
    refine ⟨fun i m H2 => ∃ acc vs S2 φ2, Kp H2 φ2 ∧ H2 D = some (.lst vs) ∧ VRs K mg H2 φ2 acc vs ∧ SR K mg H2 φ2 S2 ∧ lcN J g t a (wipeE e own) m i acc S2 = .ok xs S9, ⟨fuel, [], [], S1, φ1.hide D, kp0, upd_same, .nil, s0, hl⟩, ?_⟩
    rintro i m H2 ⟨acc, vs, S2, φ2, k2, hD2, ra, s2, h2⟩
    have hs : φ2 = Fi.hide ⟨φ2.t, φ1.h⟩ D := by
      obtain ⟨t2, h2'⟩ := φ2
      have : h2' = D :: φ1.h := k2.2.1
      subst this; rfl
    have nDt : D ∉ φ2.t := (s2.hd D (by rw [k2.2.1]; exact List.mem_cons_self)).1
    have nd2 : H2 D ≠ none := by rw [hD2]; exact fun z => nomatch z
    have s2' : SR K mg H2 (Fi.hide ⟨φ2.t, φ1.h⟩ D) S2 := by rw [← hs]; exact s2
    obtain ⟨moS, s2v⟩ := s2'.show_
    cases m with
    | zero => cases h2
    | succ m =>
      have j := jr i S2 H2 φ2 (hideV k2 nd2) s2
      simp only [lcN] at h2
      cases hj : J i S2 with
      | none => simp only [hj] at h2; cases h2
      | some o =>
        rw [hj] at j
        simp only [hj] at h2
        cases o with
        | none =>
          injection h2 with e8 e9
          subst e8 e9
          refine .inl ⟨j, ?_⟩
          have ra' : VRs K mg H2 (Fi.hide ⟨φ2.t, φ1.h⟩ D) acc vs := by rw [← hs]; exact ra
          cases hm : ‹Bool› with
          | false =>
            subst hm
            refine q1 (.ref D) H2 ⟨φ2.t, φ1.h⟩ (kpm k2) s2v ?_
            simp only [mkL_f, VR]
            exact ⟨D, vs, rfl, ⟨⟨nDt, nD.2⟩, hD2⟩, ra'.monoM moS⟩
          | true =>
            subst hm
            have moA : Mon H2 H2 (Fi.hide ⟨φ2.t, φ1.h⟩ D) ⟨φ2.t ++ [D], φ1.h⟩ := ⟨⟨[D], rfl⟩, fun p u h n => ⟨h, fun z => by
              rcases List.mem_append.mp z with z | z
              · exact n.1 z
              · exact n.2 (by rw [List.mem_singleton.mp z]; exact List.mem_cons_self), fun z => n.2 (List.mem_cons_of_mem _ z)⟩, fun _ _ h => h, fun _ _ _ h => h⟩
            obtain ⟨_, s3, l3⟩ := s2'.adopt (ob := .lst acc) ⟨vs, hD2, ra'.monoM moA⟩ nD.2
            have kx := kpm k2
            obtain ⟨l, el⟩ := kx.pre
            refine q1 (.ref D) H2 ⟨φ2.t ++ [D], φ1.h⟩ ⟨⟨l ++ [D], by show φ2.t ++ [D] = _; rw [show φ2.t = φ1.t ++ l from el, List.append_assoc]⟩, rfl, kx.fr, fun p hp n => ?_, kx.tup, kx.frz⟩ s3 (by simp only [mkL_t, VR]; exact ⟨D, rfl, l3⟩)
            rcases List.mem_append.mp hp with z | z
            · exact kx.new p z n
            · have : p = D := by simpa using z
              rw [this]; exact hD
        | some w =>
          obtain ⟨jg, jy⟩ := j
          dsimp only at h2
          refine .inr ⟨jg, fun H' => ∃ acc vs S2 φ2, Kp H' φ2 ∧ H' D = some (.lst vs) ∧ VRs K mg H' φ2 acc vs ∧ SR K mg H' φ2 S2 ∧ lcN J g t a (wipeE e own) m (i + 1) acc S2 = .ok xs S9, fun H' h => ⟨m, Nat.lt_succ_self m, h⟩, fun y H3 hy => ?_⟩
          obtain ⟨eH3, r3⟩ := jy y H3 hy
          subst eH3
          cases hgw : g w (wipeE e own) S2 with
          | none => simp only [hgw] at h2; cases h2
          | some p =>
            obtain ⟨e4, S4⟩ := p
            simp only [hgw] at h2
            have er3 : ER K mg H3 φ2 (wipeE e own) (wipe σ own) := (ER.monoM (hideV k2 nd2) (er.mono x1)).wipe own
            refine ⟨w, wipeE e own, S2, φ2, e4, S4, r3, er3, s2, hgw, fun σ5 H5 φ5 x5 er5 s5 hw5 => ⟨hw5.trans wipe_wipe, e4, S4, φ5, er5, s5, ?_⟩⟩
            have k5 := kpx k2 nd2 x5
            obtain ⟨d5, nd5⟩ := x5.beside hD2 nDt
            cases ht : t e4 S4 with
            | bad => simp only [ht, R.bind_bad] at h2; cases h2
            | exc _ _ => simp only [ht, R.bind_exc] at h2; cases h2
            | ok k S6 =>
              simp only [ht, R.bind_ok] at h2
              intro k' H6 φ6 x6 s6 ek
              subst ek
              have k6 := kpx k5 (by rw [d5]; exact fun z => nomatch z) x6
              obtain ⟨d6, nd6⟩ := x6.beside d5 nd5
              cases k with
              | false =>
                rw [if_neg Bool.false_ne_true] at h2 ⊢
                exact ⟨acc, vs, S6, φ6, k6, d6, (ra.mono x5).mono x6, s6, h2⟩
              | true =>
                rw [if_pos rfl] at h2 ⊢
                refine ⟨e4, S6, φ6, er5.mono x6, s6, ?_⟩
                cases ha : a e4 S6 with
                | bad => simp only [ha, R.bind_bad] at h2; cases h2
                | exc _ _ => simp only [ha, R.bind_exc] at h2; cases h2
                | ok z S7 =>
                  simp only [ha, R.bind_ok] at h2
                  intro zv H7 φ7 x7 s7 rz
                  have k7 := kpx k6 (by rw [d6]; exact fun z => nomatch z) x7
                  obtain ⟨d7, nd7⟩ := x7.beside d6 nd6
                  have ra7 := ((ra.mono x5).mono x6).mono x7
                  split at h2
                  · rename_i hz
                    have hs7 : φ7 = Fi.hide ⟨φ7.t, φ1.h⟩ D := by
                      obtain ⟨t7, h7'⟩ := φ7
                      have : h7' = D :: φ1.h := k7.2.1
                      subst this; rfl
                    have s7' : SR K mg H7 (Fi.hide ⟨φ7.t, φ1.h⟩ D) S7 := by rw [← hs7]; exact s7
                    obtain ⟨mo, s8⟩ := s7'.hideSet (o' := .lst (vs ++ [zv])) d7 rfl
                    rw [← hs7] at mo s8
                    refine ⟨vs, d7, by rw [← ra7.length]; exact hz, acc ++ [z], vs ++ [zv], S7, φ7, ?_, upd_same, (ra7.append (.one rz)).monoM mo, s8, h2⟩
                    obtain ⟨c1, c2, c3, c4, c5, c6⟩ := k7
                    refine ⟨c1, c2, fun p o hp n => ?_, c4, fun p ys hp => mo.tup _ _ (c5 p ys hp), fun p o u hp => mo.frz _ _ _ (c6 p o u hp)⟩
                    have hne : p ≠ D := fun z => by rw [z, hD] at hp; cases hp
                    rw [upd_ne hne]
                    exact c3 p o hp n
                  · cases h2
variable {elt tg iter : Expr} {ifs : List Expr} {scope : Scope} {own : List (Str × Nat)} {it : IM} {g : GM} {T : TM}
abbrev MTs (X : Cx) (Wx : WX) (ifs : List Expr) (t : TM) : Prop := PTs X ifs (rT X.K X.mg Wx t)
theorem mts_nil : MTs X Wx [] tYesM := ⟨fun pins s σ H Q I ⟨e, S, φ, er, sr, q⟩ => pts_nil.run pins s σ H Q I (show Q true H from q.ok_at sr rfl)⟩
theorem mts_one (h : MT X Wx c T) : MTs X Wx [c] T := pts_one h
/-- the context of a comprehension's block -/
abbrev Blk (X : Cx) (scope : Scope) (P : Cx → Prop) : Prop := ∀ (s : Shared) (H : Hp) (C : Addr) (cl : List (Str × Addr)) (fp : List Addr), P (X.blk s H scope (compEnvC scope cl C X.env) fp)
abbrev ownI (own : List (Str × Nat)) : List Nat := own.map (·.2)
theorem m_lc {m : Bool} (hc : X.calm = true) (hN : X.N.Nodup) (hi : MI X Wx tg iter it) (ok : BlkOk X.N X.env.scope scope own) (hg : Blk X scope fun Y => MGo Y (ownI own) tg g) (ht : Blk X scope fun Y => MTs Y NoX ifs T) (he : Blk X scope fun Y => ME Y NoX elt A)
    (hs : ∀ x, foldedSetIterable iter X.env x = pure x := by intro _; rfl) : ME X Wx (.ListComp elt [⟨tg, iter, ifs, 0⟩] scope pos) (eLc m it (ownI own) g T A) :=
  leE (pe_lc (own := own) (wi := rIt X.K X.mg Wx it) (g := rGo X.K X.mg (ownI own) g) (tt := rT X.K X.mg NoX T) (te := rE X.K X.mg NoX A) hc hN hi ok (fun s H C cl fp => hg s H C cl fp) (fun s H C cl fp => ht s H C cl fp) (fun s H C cl fp => he s H C cl fp) hs) fun σ H Q h => lc_read h
theorem ms_setLc {m : Bool} {i : Nat} {y : Str} {py spos : Pos} (hc : X.calm = true) (hN : X.N.Nodup) (hy : X.N[i]? = some y) (hyl : X.env.scope.names.lookup y = some .local)
    (hsw : swapsWith (.ListComp elt [⟨tg, iter, ifs, 0⟩] scope pos) (some (.Name y py)) spos.line X.env = pure true) (hi : MI X Wx tg iter it) (ok : BlkOk X.N X.env.scope scope own) (hg : Blk X scope fun Y => MGo Y (ownI own) tg g) (ht : Blk X scope fun Y => MTs Y NoX ifs T) (he : Blk X scope fun Y => ME Y NoX elt A)
    (hs : ∀ x, foldedSetIterable iter X.env x = pure x := by intro _; rfl) : MS X Wx (.Assign [.Name y py] (.ListComp elt [⟨tg, iter, ifs, 0⟩] scope pos) spos) (sSet i (eLc m it (ownI own) g T A)) :=
  leS (ps_setLc (own := own) (i := i) (wi := rIt X.K X.mg Wx it) (g := rGo X.K X.mg (ownI own) g) (tt := rT X.K X.mg NoX T) (te := rE X.K X.mg NoX A) hc hN hy hyl hsw hi ok (fun s H C cl fp => hg s H C cl fp) (fun s H C cl fp => ht s H C cl fp) (fun s H C cl fp => he s H C cl fp) hs)
    fun D σ H ⟨e, S, φ, er, sr, q⟩ => lc_read (Q := fun x H1 => gName i x σ H1 D.nx) ⟨e, S, φ, er, sr, PostS.thn er q fun w S1 v H1 φ1 x1 s1 r1 q1 => q1 _ H1 φ1 .refl ((er.mono x1).set r1) s1⟩
end
end Sh

set_option Elab.async false
set_option linter.all false
set_option maxRecDepth 100000
set_option maxHeartbeats 2000000
/-! ShP: the primitives and their soundness. -/
namespace Sh
open PySem PySem.Spec PyProof.Rows L2

/-! ### the model's primitives -/
/-- the module's dicts with text keys -/
abbrev GD := Str → Option (List (Str × W))
def scV : W → Option V
  | .non => some .non
  | .bl b => some (.bl b)
  | .int i => some (.int i)
  | .str x => some (.str x)
  | _ => none
def scVs : List W → Option (List V)
  | [] => some []
  | w :: ws => match scV w, scVs ws with
    | some v, some vs => some (v :: vs)
    | _, _ => none
def keyW : W → Option Key
  | .int i => some (.inl i)
  | .str x => some (.inr x)
  | _ => none
def valW (kvs : List (Key × W)) (k : Key) : Option W := (kvs.find? fun kv => decide (kv.1 = k)).map (·.2)
def putW (kvs : List (Key × W)) (k : Key) (w : W) : List (Key × W) :=
  if kvs.any (fun kv => decide (kv.1 = k)) then kvs.map fun kv => if kv.1 = k then (kv.1, w) else kv else kvs ++ [(k, w)]
/-- a list's items; a dict's entries -/
def lsW (w : W) (S : Store) : Option (List W) := match w with
  | .lst xs => some xs
  | .ref a => match S[a]? with
    | some (.lst xs) => some xs
    | _ => none
  | _ => none
def dcW (w : W) (S : Store) : Option (List (Key × W)) := match w with
  | .dic ks ws => some (ks.zip ws)
  | .ref a => match S[a]? with
    | some (.dic kvs) => some kvs
    | _ => none
  | _ => none
@[simp] theorem lsW_lst (xs : List W) (S : Store) : lsW (.lst xs) S = some xs := rfl
@[simp] theorem dcW_dic (ks : List Key) (ws : List W) (S : Store) : dcW (.dic ks ws) S = some (ks.zip ws) := rfl
def addW (m : Bool) : P2 := fun x y S => match x, y with
  | .int i, .int j => some (.int (i + j), S)
  | .str i, .str j => if i.length + j.length ≤ sizeLine then some (.str (i ++ j), S) else none
  | .tup xs, .tup ys => if xs.length + ys.length ≤ sizeLine then some (.tup (xs ++ ys), S) else none
  | x, y => match lsW x S, lsW y S with
    | some xs, some ys => if xs.length + ys.length ≤ sizeLine then some (mkL m (xs ++ ys) S) else none
    | _, _ => none
def subW : P2 := fun x y S => match x, y with
  | .int i, .int j => some (.int (i - j), S)
  | _, _ => none
def mulW (m : Bool) : P2 := fun x y S => match x, y with
  | .int i, .int j => if (-(2 ^ 64) < i ∧ i < 2 ^ 64) ∨ (-(2 ^ 64) < j ∧ j < 2 ^ 64) then some (.int (i * j), S) else none
  | .str z, .int k => if z.length ≤ 1000 ∧ -(2 ^ 63) ≤ k ∧ k ≤ 1000 then some (.str (Txt.mul z k), S) else none
  | x, .int k => match lsW x S with
    | some xs => if -(2 ^ 63) ≤ k ∧ k < 2 ^ 63 ∧ xs.length * k.toNat ≤ sizeLine then some (mkL m (List.replicate k.toNat xs).flatten S) else none
    | _ => none
  | _, _ => none
def fdivW : P2 := fun x y S => match x, y with
  | .int i, .int j => if 0 < j ∧ j < 1073741824 then some (.int (i / j), S) else none
  | _, _ => none
def modW : P2 := fun x y S => match x, y with
  | .int i, .int j => if 0 < j then some (.int (i % j), S) else none
  | _, _ => none
def powW : P2 := fun x y S => match x, y with
  | .int i, .int j => if 0 ≤ j ∧ j ≤ 1000000 ∧ i.natAbs < 2 ^ 64 then some (.int (i ^ j.toNat), S) else none
  | _, _ => none
def negW : P1 := fun x S => match x with
  | .int i => some (.int (-i), S)
  | _ => none
def eqW : P2 := fun x y S => match scV x, scV y with
  | some a, some b => if scal a b then some (.bl (decide (a = b)), S) else none
  | _, _ => none
def neW : P2 := fun x y S => match scV x, scV y with
  | some a, some b => if scal a b then some (.bl (!decide (a = b)), S) else none
  | _, _ => none
def cmpW (p : Int → Int → Bool) : P2 := fun x y S => match x, y with
  | .int i, .int j => some (.bl (p i j), S)
  | _, _ => none
def ltW : P2 := cmpW fun i j => decide (i < j)
def leW : P2 := cmpW fun i j => decide (i ≤ j)
def gtW : P2 := cmpW fun i j => decide (j < i)
def geW : P2 := cmpW fun i j => decide (j ≤ i)
def isNon : W → Bool
  | .non => true
  | _ => false
def isNW : P2 := fun x y S => match y with
  | .non => some (.bl (isNon x), S)
  | _ => none
def notNW : P2 := fun x y S => match y with
  | .non => some (.bl (!isNon x), S)
  | _ => none
/-- x in y -/
def inB (G : GD) (x y : W) (S : Store) : Option Bool := match y with
  | .tup ys => match scV x, scVs ys with
    | some a, some vs => some (inV a vs)
    | _, _ => none
  | .str z => match x with
    | .str s => if s.cps.size = 1 then some (decide (s.cps.getD 0 0 ∈ z.cps.toList)) else none
    | _ => none
  | .glo g => match G g, x with
    | some kvs, .str s => some (kvs.lookup s).isSome
    | _, _ => none
  | y => match lsW y S with
    | some ys => match scV x, scVs ys with
      | some a, some vs => some (inV a vs)
      | _, _ => none
    | none => match dcW y S with
      | some kvs => match keyW x with
        | some k => some (valW kvs k).isSome
        | none => none
      | none => none
def inW (G : GD) : P2 := fun x y S => (inB G x y S).map fun b => (.bl b, S)
def notInW (G : GD) : P2 := fun x y S => (inB G x y S).map fun b => (.bl (!b), S)
/-- x[y] -/
def getW (G : GD) : P2 := fun x y S => match x with
  | .tup xs => match y with
    | .int i => (atI xs i).map fun w => (w, S)
    | _ => none
  | .scr ns => match y with
    | .int i => (atI ns i).map fun n => (.int n, S)
    | _ => none
  | .str z => match y with
    | .int i => if z.length ≤ sizeLine then (atI z.cps.toList i).map fun c => (chrW c, S) else none
    | _ => none
  | .glo g => match G g, y with
    | some kvs, .str s => (kvs.lookup s).map fun w => (w, S)
    | _, _ => none
  | x => match lsW x S with
    | some xs => match y with
      | .int i => (atI xs i).map fun w => (w, S)
      | _ => none
    | none => match dcW x S with
      | some kvs => match keyW y with
        | some k => (valW kvs k).map fun w => (w, S)
        | none => none
      | none => none
/-- x[y] = v -/
def setW : P3 := fun x y v S => match x with
  | .ref a => match S[a]? with
    | some (.lst xs) => match y with
      | .int i => (ixN xs.length i).map fun j => S.set a (.lst (xs.set j v))
      | _ => none
    | some (.dic kvs) => match keyW y with
      | some k => if kvs.length < sizeLine then some (S.set a (.dic (putW kvs k v))) else none
      | none => none
    | _ => none
  | _ => none

/-! ### the module's dicts -/
def GdOk (K : PySem.W.Frag) (mg : Str → Option Value) (w : World) (G : GD) : Prop := ∀ x kvs, G x = some kvs → ∃ d es n, mg x = some (.ref d) ∧ KDict K w d es n ∧ ∀ z : Str, match kvs.lookup z with
  | some wv => ∃ u0 v0, PySem.W.nsIn K d z = some (some u0) ∧ RelV v0 u0 ∧ ∀ H φ, VR K mg H φ wv v0
  | none => PySem.W.nsIn K d z = some none

/-! ### soundness -/
section
variable {K : PySem.W.Frag} {mg : Str → Option Value} {H : Hp} {φ : Fi} {S : Store}
theorem scV_ok {w : W} {v a : V} (r : VR K mg H φ w v) (h : scV w = some a) : v = a := by
  cases w with
  | non => cases h; exact r
  | bl b => cases h; exact r
  | int i => cases h; exact r
  | str x => cases h; exact r
  | _ => cases h
theorem scV_flat {w : W} {a : V} (h : scV w = some a) : flatV a = true := by
  cases w with
  | non => cases h; rfl
  | bl b => cases h; rfl
  | int i => cases h; rfl
  | str x => cases h; rfl
  | _ => cases h
theorem scVs_ok : ∀ {ws : List W} {vs as : List V}, VRs K mg H φ ws vs → scVs ws = some as → vs = as ∧ as.all flatV = true
  | [], vs, as, r, h => by cases h; simp only [VRs] at r; exact ⟨r, rfl⟩
  | w :: ws, vs, as, r, h => by
    simp only [VRs] at r
    obtain ⟨v, r', rfl, r1, r2⟩ := r
    simp only [scVs] at h
    cases h1 : scV w with
    | none => rw [h1] at h; cases h
    | some a =>
      cases h2 : scVs ws with
      | none => rw [h1, h2] at h; cases h
      | some bs =>
        rw [h1, h2] at h
        cases h
        obtain ⟨e1, e2⟩ := scVs_ok r2 h2
        exact ⟨by rw [scV_ok r1 h1, e1], by rw [List.all_cons, scV_flat h1, e2]; rfl⟩
theorem keyW_ok {w : W} {v : V} {k : Key} (r : VR K mg H φ w v) (h : keyW w = some k) : v = kV k := by
  cases w with
  | int i => cases h; exact r
  | str x => cases h; exact r
  | _ => cases h
theorem valW_ok : ∀ {kvs : List (Key × W)} {us : List (Key × V)} {k : Key}, KVR K mg H φ kvs us → match valW kvs k with
    | some w => ∃ v, valV us k = some v ∧ VR K mg H φ w v
    | none => valV us k = none
  | [], us, k, h => by
    obtain ⟨h1, h2⟩ := h
    have : us = [] := by simpa using h1.symm
    subst this
    exact valV_nil
  | (j, w) :: kvs, us, k, h => by
    obtain ⟨h1, h2⟩ := h
    cases us with
    | nil => cases h1
    | cons p us =>
      obtain ⟨j', v⟩ := p
      simp only [List.map_cons, List.cons.injEq] at h1
      obtain ⟨e1, e2⟩ := h1
      subst e1
      have h2' : VRs K mg H φ (w :: kvs.map (·.2)) (v :: us.map (·.2)) := h2
      simp only [VRs] at h2'
      obtain ⟨v', r', e3, r1, r2⟩ := h2'
      cases e3
      by_cases hj : j = k
      · subst hj
        have e4 : valW ((j, w) :: kvs) j = some w := by simp [valW, List.find?_cons]
        rw [e4]
        exact ⟨v, valV_pos rfl, r1⟩
      · have e4 : valW ((j, w) :: kvs) k = valW kvs k := by simp [valW, List.find?_cons, hj]
        rw [e4, valV_neg (p := (j, v)) (r := us) hj]
        exact valW_ok ⟨e2, r2⟩
theorem putW_len (kvs : List (Key × W)) (k : Key) (w : W) : (putW kvs k w).length ≤ kvs.length + 1 := by
  unfold putW
  split
  · simp
  · simp
theorem kvr_any {kvs : List (Key × W)} {us : List (Key × V)} {k : Key} (h : kvs.map (·.1) = us.map (·.1)) : (kvs.any fun kv => decide (kv.1 = k)) = us.any fun kv => decide (kv.1 = k) := by
  have e1 : ∀ l : List (Key × W), (l.any fun kv => decide (kv.1 = k)) = (l.map (·.1)).any fun j => decide (j = k) := fun l => by rw [List.any_map]; rfl
  have e2 : ∀ l : List (Key × V), (l.any fun kv => decide (kv.1 = k)) = (l.map (·.1)).any fun j => decide (j = k) := fun l => by rw [List.any_map]; rfl
  rw [e1, e2, h]
theorem kvr_repl {k : Key} {w : W} {v : V} (r : VR K mg H φ w v) : ∀ {kvs : List (Key × W)} {us : List (Key × V)}, KVR K mg H φ kvs us →
    KVR K mg H φ (kvs.map fun kv => if kv.1 = k then (kv.1, w) else kv) (us.map fun kv => if kv.1 = k then (kv.1, v) else kv)
  | [], us, h => by
    have : us = [] := by simpa using h.1.symm
    subst this
    exact h
  | (j, x) :: kvs, us, h => by
    obtain ⟨h1, h2⟩ := h
    cases us with
    | nil => cases h1
    | cons p us =>
      obtain ⟨j', y⟩ := p
      simp only [List.map_cons, List.cons.injEq] at h1
      obtain ⟨e1, e2⟩ := h1
      subst e1
      have h2' : VRs K mg H φ (x :: kvs.map (·.2)) (y :: us.map (·.2)) := h2
      simp only [VRs] at h2'
      obtain ⟨v', r', e3, r1, r2⟩ := h2'
      cases e3
      obtain ⟨g1, g2⟩ := kvr_repl r (k := k) ⟨e2, r2⟩
      by_cases hj : j = k
      · refine ⟨by simp only [List.map_cons, hj, if_true]; rw [g1], ?_⟩
        simp only [List.map_cons, hj, if_true]
        exact .cons r g2
      · refine ⟨by simp only [List.map_cons, if_neg hj]; rw [g1], ?_⟩
        simp only [List.map_cons, if_neg hj]
        exact .cons r1 g2
theorem putW_ok {kvs : List (Key × W)} {us : List (Key × V)} {k : Key} {w : W} {v : V} (h : KVR K mg H φ kvs us) (r : VR K mg H φ w v) : KVR K mg H φ (putW kvs k w) (putK us k v) := by
  unfold putW putK
  rw [kvr_any h.1]
  split
  · exact kvr_repl r h
  · refine ⟨by rw [List.map_append, List.map_append, h.1]; rfl, ?_⟩
    rw [List.map_append, List.map_append]
    exact h.2.append (.one r)
theorem vint {i : Int} {v : V} (r : VR K mg H φ (.int i) v) : v = .int i := r
theorem vstr {i : Str} {v : V} (r : VR K mg H φ (.str i) v) : v = .str i := r
theorem vtup {ws : List W} {v : V} (r : VR K mg H φ (.tup ws) v) : ∃ p vs, v = .ref p ∧ SqU K H p vs ∧ VRs K mg H φ ws vs := by simpa only [VR] using r
theorem vref {a : Nat} {v : V} (r : VR K mg H φ (.ref a) v) : ∃ p, v = .ref p ∧ φ.t[a]? = some p := by simpa only [VR] using r
theorem vscr {ns : List Int} {v : V} (r : VR K mg H φ (.scr ns) v) : ∃ p, v = .ref p ∧ SqF K H p (ns.map V.int) := by simpa only [VR] using r
theorem vglo {x : Str} {v : V} (r : VR K mg H φ (.glo x) v) : ∃ a, mg x = some (.ref a) ∧ v = .ref a := by simpa only [VR] using r
/-- a list of the store -/
theorem vlst {a : Nat} {v : V} {ws : List W} (s : SR K mg H φ S) (r : VR K mg H φ (.ref a) v) (e : S[a]? = some (.lst ws)) : ∃ p vs, v = .ref p ∧ φ.t[a]? = some p ∧ H p = some (.lst vs) ∧ VRs K mg H φ ws vs := by
  obtain ⟨p, rfl, q⟩ := vref r
  obtain ⟨vs, e2, rr⟩ := s.at_ a _ p e q
  exact ⟨p, vs, rfl, q, e2, rr⟩
theorem vdic {a : Nat} {v : V} {kvs : List (Key × W)} (s : SR K mg H φ S) (r : VR K mg H φ (.ref a) v) (e : S[a]? = some (.dic kvs)) : ∃ p us, v = .ref p ∧ φ.t[a]? = some p ∧ H p = some (.dK us) ∧ KVR K mg H φ kvs us := by
  obtain ⟨p, rfl, q⟩ := vref r
  obtain ⟨us, e2, rr⟩ := s.at_ a _ p e q
  exact ⟨p, us, rfl, q, e2, rr⟩
theorem lsW_ok {w : W} {v : V} {ws : List W} (s : SR K mg H φ S) (r : VR K mg H φ w v) (e : lsW w S = some ws) : ∃ p vs, v = .ref p ∧ H p = some (.lst vs) ∧ VRs K mg H φ ws vs := by
  cases w with
  | lst xs =>
    cases e
    simp only [VR] at r
    obtain ⟨p, vs, rfl, q, rr⟩ := r
    exact ⟨p, vs, rfl, q.2, rr⟩
  | ref a =>
    simp only [lsW] at e
    split at e
    · rename_i xs e0
      cases e
      obtain ⟨p, vs, rfl, t, hp, rr⟩ := vlst s r e0
      exact ⟨p, vs, rfl, hp, rr⟩
    · cases e
  | _ => cases e
theorem dcW_ok {w : W} {v : V} {kvs : List (Key × W)} (s : SR K mg H φ S) (r : VR K mg H φ w v) (e : dcW w S = some kvs) : ∃ p us, v = .ref p ∧ H p = some (.dK us) ∧ KVR K mg H φ kvs us := by
  cases w with
  | dic ks ws =>
    cases e
    simp only [VR] at r
    obtain ⟨p, us, rfl, _, q, k, rr⟩ := r
    have hl := rr.length
    subst k
    refine ⟨p, us, rfl, q, ?_, ?_⟩
    · exact List.map_fst_zip (by simp [hl])
    · rw [List.map_snd_zip (by simp [hl])]; exact rr
  | ref a =>
    simp only [dcW] at e
    split at e
    · rename_i xs e0
      cases e
      obtain ⟨p, vs, rfl, t, hp, rr⟩ := vdic s r e0
      exact ⟨p, vs, rfl, hp, rr⟩
    · cases e
  | _ => cases e
/-- an end without a new object -/
theorem same_end {u : W} {z : V} {Q : VK} (s : SR K mg H φ S) (r : VR K mg H φ u z) (q : ∀ z H' φ', Ext H H' φ φ' → SR K mg H' φ' S → VR K mg H' φ' u z → Q z H') : Q z H := q z H φ .refl s r

def rAddM (K : PySem.W.Frag) : R2 := fun x y H Q => (∃ i j, x = .int i ∧ y = .int j ∧ Q (.int (i + j)) H) ∨ (∃ i j, x = .str i ∧ y = .str j ∧ i.length + j.length ≤ sizeLine ∧ Q (.str (i ++ j)) H) ∨ rCatA K x y H Q ∨ rCat x y H Q
theorem op_addM {X : Cx} : OpR X (binaryOp .Add) (rAddM X.K) := op_add.or (op_add_str.or (op_catA.or op_cat))
theorem snd_add {m : Bool} : Snd2 K mg (addW m) (rAddM K) := fun w w' S u S' H φ v v' Q s r r' h q => by
  unfold addW at h
  split at h
  · rename_i i j
    cases h; cases vint r; cases vint r'; exact .inl ⟨i, j, rfl, rfl, same_end s (by simp [VR]) q⟩
  · rename_i i j
    split at h
    · rename_i hz
      cases h; cases vstr r; cases vstr r'
      exact .inr (.inl ⟨i, j, rfl, rfl, hz, same_end s (by simp [VR]) q⟩)
    · cases h
  · rename_i xs ys
    split at h
    · rename_i hz
      cases h
      obtain ⟨p, vs, rfl, t, rr⟩ := vtup r
      obtain ⟨p', vs', rfl, t', rr'⟩ := vtup r'
      have l1 := rr.length
      have l2 := rr'.length
      refine .inr (.inr (.inl ⟨p, p', vs, vs', rfl, rfl, t.sq, t'.sq, by omega, fun e => ?_, fun e e' => ?_, fun e e' a ha => ?_⟩))
      · subst e
        have : xs = [] := List.length_eq_zero_iff.mp l1
        subst this
        exact same_end s (by simp only [VR]; exact ⟨p', vs', rfl, t', rr'⟩) q
      · subst e'
        have : ys = [] := List.length_eq_zero_iff.mp l2
        subst this
        rw [List.append_nil] at q
        exact same_end s (by simp only [VR]; exact ⟨p, vs, rfl, t, rr⟩) q
      · obtain ⟨x, s'⟩ := s.extra (o := .tup (vs ++ vs')) ha
        exact q _ _ _ x s' (by simp only [VR]; exact ⟨a, vs ++ vs', rfl, .inl upd_same, (rr.append rr').mono x⟩)
    · cases h
  · split at h
    · rename_i xs ys e1 e2
      split at h
      · rename_i hz
        have e := Option.some.inj h
        obtain ⟨p, vs, rfl, hp, rr⟩ := lsW_ok s r e1
        obtain ⟨p', vs', rfl, hp', rr'⟩ := lsW_ok s r' e2
        have l1 := rr.length
        have l2 := rr'.length
        exact .inr (.inr (.inr ⟨p, p', vs, vs', rfl, rfl, hp, hp', by omega, new_lst (m := m) s (rr.append rr') (by rw [e]; exact q)⟩))
      · cases h
    · cases h
theorem snd_sub : Snd2 K mg subW (rI0 fun i j => .int (i - j)) := fun w w' S u S' H φ v v' Q s r r' h q => by
  cases w with
  | int i =>
    cases w' with
    | int j => cases h; cases vint r; cases vint r'; exact ⟨i, j, rfl, rfl, same_end s (by simp [VR]) q⟩
    | _ => cases h
  | _ => cases h
/-- a text that is repeated -/
def rMulS : R2 := fun x y H Q => ∃ z k, x = .str z ∧ y = .int k ∧ z.length ≤ 1000 ∧ -(2 ^ 63) ≤ k ∧ k ≤ 1000 ∧ Q (.str (Txt.mul z k)) H
theorem op_mul_str {X : Cx} : OpR X (binaryOp .Mult) rMulS := by
  intro pins s σ H x y v u Q I rx ry h
  obtain ⟨z, k, rfl, rfl, h1, h2, h3, q⟩ := h
  obtain ⟨t, rfl⟩ := rx
  obtain ⟨t', rfl⟩ := ry
  exact PySem.SB.mul (PyProof.Rows.mulOk_of 1000 1000 h1 (by omega) h2 (by omega) (by omega)) (fun t' tk => ⟨.str (Txt.mul z k), H, I.tok _, ⟨_, rfl⟩, q⟩)
def rMulM : R2 := fun x y H Q => rI CMul (fun i j => .int (i * j)) x y H Q ∨ rMulS x y H Q ∨ rRep x y H Q
theorem op_mulM {X : Cx} : OpR X (binaryOp .Mult) rMulM := op_mul.or (op_mul_str.or op_rep)
theorem VRs.rep {ws : List W} {vs : List V} (h : VRs K mg H φ ws vs) : ∀ k : Nat, VRs K mg H φ (List.replicate k ws).flatten (List.replicate k vs).flatten
  | 0 => .nil
  | k + 1 => by
    rw [List.replicate_succ, List.replicate_succ, List.flatten_cons, List.flatten_cons]
    exact h.append (h.rep k)
theorem snd_mul {m : Bool} : Snd2 K mg (mulW m) rMulM := fun w w' S u S' H φ v v' Q s r r' h q => by
  unfold mulW at h
  split at h
  · rename_i i j
    split at h
    · rename_i hz
      cases h; cases vint r; cases vint r'; exact .inl ⟨i, j, rfl, rfl, hz, same_end s (by simp [VR]) q⟩
    · cases h
  · rename_i z k
    split at h
    · rename_i hz
      cases h; cases vstr r; cases vint r'; exact .inr (.inl ⟨z, k, rfl, rfl, hz.1, hz.2.1, hz.2.2, same_end s (by simp [VR]) q⟩)
    · cases h
  · rename_i k _ _
    split at h
    · rename_i xs e1
      split at h
      · rename_i hz
        have e := Option.some.inj h
        cases vint r'
        obtain ⟨p, vs, rfl, hp, rr⟩ := lsW_ok s r e1
        exact .inr (.inr ⟨p, k, vs, rfl, rfl, hp, hz.1, hz.2.1, by rw [← rr.length]; exact hz.2.2, new_lst (m := m) s (rr.rep k.toNat) (by rw [e]; exact q)⟩)
      · cases h
    · cases h
  · cases h
theorem snd_fdiv : Snd2 K mg fdivW (rI CDiv fun i j => .int (i / j)) := fun w w' S u S' H φ v v' Q s r r' h q => by
  cases w with
  | int i =>
    cases w' with
    | int j =>
      simp only [fdivW] at h
      split at h
      · rename_i hz
        cases h; cases vint r; cases vint r'; exact ⟨i, j, rfl, rfl, hz, same_end s (by simp [VR]) q⟩
      · cases h
    | _ => cases h
  | _ => cases h
theorem snd_mod : Snd2 K mg modW (rI (fun _ j => 0 < j) fun i j => .int (i % j)) := fun w w' S u S' H φ v v' Q s r r' h q => by
  cases w with
  | int i =>
    cases w' with
    | int j =>
      simp only [modW] at h
      split at h
      · rename_i hz
        cases h; cases vint r; cases vint r'; exact ⟨i, j, rfl, rfl, hz, same_end s (by simp [VR]) q⟩
      · cases h
    | _ => cases h
  | _ => cases h
theorem snd_pow : Snd2 K mg powW (rI CPow fun i j => .int (i ^ j.toNat)) := fun w w' S u S' H φ v v' Q s r r' h q => by
  cases w with
  | int i =>
    cases w' with
    | int j =>
      simp only [powW] at h
      split at h
      · rename_i hz
        cases h; cases vint r; cases vint r'; exact ⟨i, j, rfl, rfl, hz, same_end s (by simp [VR]) q⟩
      · cases h
    | _ => cases h
  | _ => cases h
theorem snd_neg : Snd1 K mg negW (rU fun i => .int (-i)) := fun w S u S' H φ v Q s r h q => by
  cases w with
  | int i => cases h; cases vint r; exact ⟨i, rfl, same_end s (by simp [VR]) q⟩
  | _ => cases h
theorem snd_eq : Snd2 K mg eqW rEq := fun w w' S u S' H φ v v' Q s r r' h q => by
  simp only [eqW] at h
  split at h
  · rename_i a b e1 e2
    split at h
    · rename_i hz
      cases h
      cases scV_ok r e1
      cases scV_ok r' e2
      exact ⟨hz, same_end s (by simp [VR]) q⟩
    · cases h
  · cases h
theorem snd_ne : Snd2 K mg neW rNe := fun w w' S u S' H φ v v' Q s r r' h q => by
  simp only [neW] at h
  split at h
  · rename_i a b e1 e2
    split at h
    · rename_i hz
      cases h
      cases scV_ok r e1
      cases scV_ok r' e2
      exact ⟨hz, same_end s (by simp [VR]) q⟩
    · cases h
  · cases h
theorem snd_cmp {p : Int → Int → Bool} : Snd2 K mg (cmpW p) (rI0 fun i j => .bl (p i j)) := fun w w' S u S' H φ v v' Q s r r' h q => by
  cases w with
  | int i =>
    cases w' with
    | int j => cases h; cases vint r; cases vint r'; exact ⟨i, j, rfl, rfl, same_end s (by simp [VR]) q⟩
    | _ => cases h
  | _ => cases h
theorem isN_dec {w : W} {v : V} (r : VR K mg H φ w v) : (decide (v = V.non)) = isNon w := by
  cases w with
  | non => cases (show v = .non from r); rfl
  | bl b => cases (show v = .bl b from r); rfl
  | int b => cases (show v = .int b from r); rfl
  | str b => cases (show v = .str b from r); rfl
  | ty b => cases (show v = .ty b from r); rfl
  | tup b => obtain ⟨p, vs, rfl, _⟩ := vtup r; rfl
  | ref b => obtain ⟨p, rfl, _⟩ := vref r; rfl
  | scr b => obtain ⟨p, rfl, _⟩ := vscr r; rfl
  | lst b => simp only [VR] at r; obtain ⟨p, _, rfl, _⟩ := r; rfl
  | dic b c => simp only [VR] at r; obtain ⟨p, _, rfl, _⟩ := r; rfl
  | glo b => obtain ⟨p, _, rfl⟩ := vglo r; rfl
theorem snd_isN : Snd2 K mg isNW (fun x y H Q => y = .non ∧ Q (.bl (decide (x = .non))) H) := fun w w' S u S' H φ v v' Q s r r' h q => by
  cases w' with
  | non =>
    cases h
    refine ⟨r', ?_⟩
    rw [isN_dec r]
    exact same_end s (by simp [VR]) q
  | _ => cases h
theorem snd_notN : Snd2 K mg notNW (fun x y H Q => y = .non ∧ Q (.bl (!decide (x = .non))) H) := fun w w' S u S' H φ v v' Q s r r' h q => by
  cases w' with
  | non =>
    cases h
    refine ⟨r', ?_⟩
    rw [isN_dec r]
    exact same_end s (by simp [VR]) q
  | _ => cases h

/-! ### in -/
variable {w0 : World} {G : GD}
/-- every way of «in» -/
def rInM (K : PySem.W.Frag) (w : World) (neg : Bool) : R2 := fun x y H Q => rIn K neg x y H Q ∨ (∃ a o, y = .ref a ∧ DGet H a x o ∧ Q (.bl (if neg then !o.isSome else o.isSome)) H) ∨
  (∃ (c : Nat) (z : Str), x = .str ⟨#[c]⟩ ∧ y = .str z ∧ Q (.bl (if neg then !decide (c ∈ z.cps.toList) else decide (c ∈ z.cps.toList))) H) ∨
  (∃ d es n, KDict K w d es n ∧ ∃ (z : Str) (r : Option Value), x = .str z ∧ y = .ref d ∧ PySem.W.nsIn K d z = some r ∧ Q (.bl (if neg then !r.isSome else r.isSome)) H)
theorem op_inM {X : Cx} (hu : X.A.units + 1 < cLine) : OpR X (compareOp .In) (rInM X.K X.w false) := by
  intro pins s σ H x y v u Q I rx ry h
  rcases h with h | ⟨a, o, rfl, g, q⟩ | ⟨c, z, h1, h2, q⟩ | ⟨d, es, n, D, z, r, h1, h2, e, q⟩
  · exact op_in_seq pins s σ H x y v u Q I rx ry h
  · cases ry
    exact d_in hu I g rx fun s3 I3 => ⟨.bl o.isSome, H, I3, rfl, q⟩
  · exact op_in_sign pins s σ H x y v u Q I rx ry ⟨c, z, h1, h2, q⟩
  · exact op_in_kd D pins s σ H x y v u Q I rx ry ⟨z, r, h1, h2, e, q⟩
theorem op_notInM {X : Cx} (hu : X.A.units + 1 < cLine) : OpR X (compareOp .NotIn) (rInM X.K X.w true) := by
  intro pins s σ H x y v u Q I rx ry h
  rcases h with h | ⟨a, o, rfl, g, q⟩ | ⟨c, z, h1, h2, q⟩ | ⟨d, es, n, D, z, r, h1, h2, e, q⟩
  · exact op_notIn_seq pins s σ H x y v u Q I rx ry h
  · cases ry
    exact d_notIn hu I g rx fun s3 I3 => ⟨.bl (!o.isSome), H, I3, rfl, q⟩
  · exact op_notIn_sign pins s σ H x y v u Q I rx ry ⟨c, z, h1, h2, q⟩
  · exact op_notIn_kd D pins s σ H x y v u Q I rx ry ⟨z, r, h1, h2, e, q⟩
theorem inB_ok (hG : GdOk K mg w0 G) {x y : W} {v v' : V} {b : Bool} {Q : VK} {neg : Bool} (s : SR K mg H φ S) (r : VR K mg H φ x v) (r' : VR K mg H φ y v') (h : inB G x y S = some b) (q : Q (.bl (if neg then !b else b)) H) : rInM K w0 neg v v' H Q := by
  unfold inB at h
  split at h
  · rename_i ys
    split at h
    · rename_i a vs e1 e2
      cases h
      obtain ⟨p, us, rfl, t, rr⟩ := vtup r'
      obtain ⟨e3, e4⟩ := scVs_ok rr e2
      subst e3
      cases scV_ok r e1
      exact .inl ⟨p, us, rfl, .inr t.sq, scV_flat e1, e4, q⟩
    · cases h
  · rename_i z
    cases x with
    | str t =>
      dsimp only at h
      split at h
      · rename_i hz
        cases h
        cases vstr r
        cases vstr r'
        obtain ⟨cs⟩ := t
        obtain ⟨c, rfl⟩ : ∃ c, cs = #[c] := Array.size_eq_one_iff.mp hz
        exact .inr (.inr (.inl ⟨c, z, rfl, rfl, q⟩))
      · cases h
    | _ => cases h
  · rename_i g
    split at h
    · rename_i kvs t e1
      cases h
      obtain ⟨a, m, rfl⟩ := vglo r'
      cases vstr r
      obtain ⟨d, es, n, m', D, hz⟩ := hG g kvs e1
      rw [m] at m'; cases m'
      have := hz t
      cases e2 : kvs.lookup t with
      | none => rw [e2] at this q; exact .inr (.inr (.inr ⟨a, es, n, D, t, none, rfl, rfl, this, q⟩))
      | some w1 =>
        rw [e2] at this q
        obtain ⟨u0, v0, e3, _⟩ := this
        exact .inr (.inr (.inr ⟨a, es, n, D, t, some u0, rfl, rfl, e3, q⟩))
    · cases h
  · split at h
    · rename_i ys e0
      split at h
      · rename_i a vs e1 e2
        cases h
        obtain ⟨p, us, rfl, hp, rr⟩ := lsW_ok s r' e0
        obtain ⟨e3, e4⟩ := scVs_ok rr e2
        subst e3
        cases scV_ok r e1
        exact .inl ⟨p, us, rfl, .inl (SqL.of hp), scV_flat e1, e4, q⟩
      · cases h
    · split at h
      · rename_i kvs e0
        split at h
        · rename_i k e1
          cases h
          obtain ⟨p, us, rfl, hp, rr⟩ := dcW_ok s r' e0
          cases keyW_ok r e1
          refine .inr (.inl ⟨p, valV us k, rfl, DGet.k hp, ?_⟩)
          have := valW_ok (k := k) rr
          cases e2 : valW kvs k with
          | none => rw [e2] at this q; rw [this]; exact q
          | some w1 =>
            rw [e2] at this q
            obtain ⟨v1, e3, _⟩ := this
            rw [e3]; exact q
        · cases h
      · cases h
theorem snd_in (hG : GdOk K mg w0 G) : Snd2 K mg (inW G) (rInM K w0 false) := fun w w' S u S' H φ v v' Q s r r' h q => by
  simp only [inW, Option.map_eq_some_iff] at h
  obtain ⟨b, h1, h2⟩ := h
  cases h2
  exact inB_ok hG s r r' h1 (same_end s (by simp [VR]) q)
theorem snd_notIn (hG : GdOk K mg w0 G) : Snd2 K mg (notInW G) (rInM K w0 true) := fun w w' S u S' H φ v v' Q s r r' h q => by
  simp only [notInW, Option.map_eq_some_iff] at h
  obtain ⟨b, h1, h2⟩ := h
  cases h2
  exact inB_ok hG s r r' h1 (same_end s (by simp [VR]) q)

/-! ### x[y] -/
def rIxD : R2 := fun x y H Q => ∃ a v, x = .ref a ∧ DGet H a y (some v) ∧ Q v H
theorem ix_dict {X : Cx} (hu : X.A.units + 1 < cLine) : IxR X rIxD := by
  intro value slice pins s σ H x y v u Q I rx ry h hs
  obtain ⟨a, z, rfl, g, q⟩ := h
  cases rx
  exact tail_any (dict_typeIs I g) PySem.F.slot_dict_getitem.lookup (d_getItem hu I g ry fun w' s3 I3 rw' => ⟨z, H, I3, rw', q⟩) hs
def rIxK (K : PySem.W.Frag) (w : World) : R2 := fun x y H Q => ∃ d es n, KDict K w d es n ∧ ∃ (z : Str) (u0 : Value) (v0 : V), x = .ref d ∧ y = .str z ∧ PySem.W.nsIn K d z = some (some u0) ∧ RelV v0 u0 ∧ Q v0 H
theorem ix_kd {X : Cx} : IxR X (rIxK X.K X.w) := by
  intro value slice pins s σ H x y v u Q I rx ry h hs
  obtain ⟨d, es, n, D, z, u0, v0, rfl, rfl, e, r, q⟩ := h
  cases rx
  exact tail_any (kd_type D I) PySem.F.slot_dict_getitem.lookup (op_item_kd D pins s σ H (.ref d) (.str z) (.ref d) u Q I rfl ry ⟨z, u0, v0, rfl, rfl, e, r, q⟩) hs
def rIxM (K : PySem.W.Frag) (w : World) : R2 := fun x y H Q => (rIxL K x y H Q ∨ rIxT K x y H Q ∨ rIxS x y H Q) ∨ rIxD x y H Q ∨ rIxK K w x y H Q
theorem ix_M {X : Cx} (hu : X.A.units + 1 < cLine) : IxR X (rIxM X.K X.w) := IxR.or (ix_list.or (ix_tup.or ix_str)) ((ix_dict hu).or ix_kd)
theorem atI_ok {ws : List W} {vs : List V} {i : Int} {w : W} (r : VRs K mg H φ ws vs) (h : atI ws i = some w) : ∃ v, atI vs i = some v ∧ VR K mg H φ w v := by
  unfold atI at h ⊢
  rw [← r.length]
  cases e : ixN ws.length i with
  | none => rw [e] at h; cases h
  | some j =>
    rw [e] at h
    obtain ⟨v, e1, rv⟩ := r.get (i := j) h
    exact ⟨v, e1, rv⟩
theorem atI_map {α β : Type} {f : α → β} {xs : List α} {i : Int} {x : α} (h : atI xs i = some x) : atI (xs.map f) i = some (f x) := by
  unfold atI at h ⊢
  rw [List.length_map]
  cases e : ixN xs.length i with
  | none => rw [e] at h; cases h
  | some j =>
    rw [e] at h
    show (xs.map f)[j]? = _
    rw [List.getElem?_map]
    have h' : xs[j]? = some x := h
    rw [h']; rfl
theorem snd_get (hG : GdOk K mg w0 G) : Snd2 K mg (getW G) (rIxM K w0) := fun w w' S u S' H φ v v' Q s r r' h q => by
  unfold getW at h
  split at h
  · rename_i xs
    cases w' with
    | int i =>
      simp only [Option.map_eq_some_iff] at h
      obtain ⟨x, h1, h2⟩ := h
      cases h2
      obtain ⟨p, us, rfl, t, rr⟩ := vtup r
      cases vint r'
      obtain ⟨z, e1, rz⟩ := atI_ok rr h1
      exact .inl (.inr (.inl ⟨p, us, i, z, rfl, rfl, t.sq, e1, same_end s rz q⟩))
    | _ => cases h
  · rename_i ns
    cases w' with
    | int i =>
      simp only [Option.map_eq_some_iff] at h
      obtain ⟨x, h1, h2⟩ := h
      cases h2
      obtain ⟨p, rfl, t⟩ := vscr r
      cases vint r'
      exact .inl (.inl ⟨p, _, i, .int x, rfl, rfl, t.sq, atI_map h1, same_end s (by simp [VR]) q⟩)
    | _ => cases h
  · rename_i z
    cases w' with
    | int i =>
      dsimp only at h
      split at h
      · rename_i hz
        simp only [Option.map_eq_some_iff] at h
        obtain ⟨x, h1, h2⟩ := h
        cases h2
        cases vstr r
        cases vint r'
        exact .inl (.inr (.inr ⟨z, i, x, rfl, rfl, hz, h1, same_end s (by simp [VR, chrW]) q⟩))
      · cases h
    | _ => cases h
  · rename_i g
    split at h
    · rename_i kvs t e1
      simp only [Option.map_eq_some_iff] at h
      obtain ⟨x, h1, h2⟩ := h
      cases h2
      obtain ⟨a, m, rfl⟩ := vglo r
      cases vstr r'
      obtain ⟨d, es, n, m', D, hz⟩ := hG g kvs e1
      rw [m] at m'; cases m'
      have := hz t
      rw [h1] at this
      obtain ⟨u0, v0, e3, rv, rw'⟩ := this
      exact .inr (.inr ⟨a, es, n, D, t, u0, v0, rfl, rfl, e3, rv, same_end s (rw' _ _) q⟩)
    · cases h
  · split at h
    · rename_i xs e0
      cases w' with
      | int i =>
        simp only [Option.map_eq_some_iff] at h
        obtain ⟨x, h1, h2⟩ := h
        cases h2
        obtain ⟨p, us, rfl, hp, rr⟩ := lsW_ok s r e0
        cases vint r'
        obtain ⟨z, e1, rz⟩ := atI_ok rr h1
        exact .inl (.inl ⟨p, us, i, z, rfl, rfl, SqL.of hp, e1, same_end s rz q⟩)
      | _ => cases h
    · split at h
      · rename_i kvs e0
        split at h
        · rename_i k e1
          simp only [Option.map_eq_some_iff] at h
          obtain ⟨x, h1, h2⟩ := h
          cases h2
          obtain ⟨p, us, rfl, hp, rr⟩ := dcW_ok s r e0
          cases keyW_ok r' e1
          have := valW_ok (k := k) rr
          rw [h1] at this
          obtain ⟨z, e3, rz⟩ := this
          exact .inr (.inl ⟨p, z, rfl, by rw [← e3]; exact DGet.k hp, same_end s rz q⟩)
        · cases h
      · cases h

/-! ### x[y] = v -/
theorem PSet.or {X : Cx} {t t' : TSet} (h : PSet X t) (h' : PSet X t') : PSet X (fun o i v H Q => t o i v H Q ∨ t' o i v H Q) := fun pins s σ H o i v ov iv u Q I r1 r2 r3 q => q.elim (h pins s σ H o i v ov iv u Q I r1 r2 r3) (h' pins s σ H o i v ov iv u Q I r1 r2 r3)
def rSetD : TSet := fun o i v H Q => ∃ a H', o = .ref a ∧ DPut H a i v H' ∧ Q H'
theorem set_dict {X : Cx} (hu : X.A.units + 1 < cLine) : PSet X rSetD := by
  intro pins s σ H o i v ov iv u Q I r1 r2 r3 h
  obtain ⟨a, H', rfl, g, q⟩ := h
  cases r1
  exact d_setItem hu I g r2 r3 fun s4 I4 => ⟨H', I4, q⟩
def rSetM : TSet := fun o i v H Q => rSetL o i v H Q ∨ rSetD o i v H Q
theorem set_M {X : Cx} (hu : X.A.units + 1 < cLine) : PSet X rSetM := PSet.or set_list (set_dict hu)
theorem snd_set : Snd3 K mg setW rSetM := fun x y v S S' H φ xo yo vo Q s rx ry rv h q => by
  cases x with
  | ref a =>
    simp only [setW] at h
    split at h
    · rename_i xs e0
      split at h
      · rename_i i
        simp only [Option.map_eq_some_iff] at h
        obtain ⟨j, h1, h2⟩ := h
        subst h2
        obtain ⟨p, us, rfl, t, hp, rr⟩ := vlst s rx e0
        cases vint ry
        obtain ⟨x, s'⟩ := s.write (ob := .lst (xs.set j v)) (o := .lst (us.set j vo)) t fun H' φ' x e => ⟨_, e, (rr.mono x).set (rv.mono x) j⟩
        exact .inl ⟨p, us, i, j, rfl, rfl, hp, by rw [← rr.length]; exact h1, q _ _ x s'⟩
      · cases h
    · rename_i kvs e0
      split at h
      · rename_i k e1
        split at h
        · rename_i hz
          cases h
          obtain ⟨p, us, rfl, t, hp, rr⟩ := vdic s rx e0
          cases keyW_ok ry e1
          have l1 : kvs.length = us.length := by have := congrArg List.length rr.1; simpa using this
          obtain ⟨x, s'⟩ := s.write (ob := .dic (putW kvs k v)) (o := .dK (putK us k vo)) t fun H' φ' x e => ⟨_, e, putW_ok (rr.mono x) (rv.mono x)⟩
          exact .inr ⟨p, _, rfl, DPut.k hp (by omega), q _ _ x s'⟩
        · cases h
      · cases h
    · cases h
  | _ => cases h
end
end Sh

set_option Elab.async false
set_option linter.all false
set_option maxRecDepth 100000
set_option maxHeartbeats 2000000
/-! ShB: built-ins, methods, slices, displays of dicts, calls of the text's defs. -/
namespace Sh
open PySem PySem.Spec PyProof.Rows L2

/-! ### the model -/
def tyName (w : W) (S : Store) : Option String := match w with
  | .non => some "NoneType"
  | .bl _ => some "bool"
  | .int _ => some "int"
  | .str _ => some "str"
  | .tup _ => some "tuple"
  | .scr _ => some "list"
  | .lst _ => some "list"
  | .dic _ _ => some "dict"
  | .ref a => match S[a]? with
    | some (.lst _) => some "list"
    | some (.dic _) => some "dict"
    | _ => none
  | _ => none
def isTy (a n : String) : Bool := a == n || (a == "bool" && n == "int")
def tyNs : List String := ["int", "str", "list", "tuple", "dict", "bool"]
def tysW : List W → Option (List String)
  | [] => some []
  | .ty n :: r => if n ∈ tyNs then (tysW r).map fun ns => n :: ns else none
  | _ => none
def isiN : PN := fun ws S => match ws with
  | [x, .ty n] => match tyName x S with
    | some a => if n ∈ tyNs then some (.bl (isTy a n), S) else none
    | none => none
  | [x, .tup cs] => match tyName x S with
    | some a => (tysW cs).map fun ns => (.bl (ns.any (isTy a)), S)
    | none => none
  | _ => none
def lenN : PN := fun ws S => match ws with
  | [.str x] => if x.length ≤ sizeLine then some (.int x.length, S) else none
  | [.tup xs] => some (.int xs.length, S)
  | [.scr ns] => some (.int ns.length, S)
  | [x] => match lsW x S with
    | some xs => some (.int xs.length, S)
    | none => match dcW x S with
      | some kvs => some (.int kvs.length, S)
      | none => none
  | _ => none
def absN : PN := fun ws S => match ws with
  | [.int i] => some (.int (if i < 0 then -i else i), S)
  | _ => none
def intN : PN := fun ws S => match ws with
  | [.int i] => some (.int i, S)
  | [.bl b] => some (.int (if b then 1 else 0), S)
  | _ => none
noncomputable def strN : PN := fun ws S => match ws with
  | [.int i] => if -big ≤ i ∧ i < big then some (.str (toString i), S) else none
  | [.str x] => some (.str x, S)
  | [.bl b] => some (.str (if b then "True" else "False"), S)
  | _ => none
def ordN : PN := fun ws S => match ws with
  | [.str x] => if x.length = 1 then some (.int (x.cps.getD 0 0 : Nat), S) else none
  | _ => none
def minN : PN := fun ws S => match ws with
  | [.int i, .int j] => some (.int (if j < i then j else i), S)
  | _ => none
def maxN : PN := fun ws S => match ws with
  | [.int i, .int j] => some (.int (if j > i then j else i), S)
  | _ => none
def kW : Key → W
  | .inl i => .int i
  | .inr x => .str x
def listN (m : Bool) : PN := fun ws S => match ws with
  | [.tup xs] => some (mkL m xs S)
  | [.scr ns] => some (mkL m (ns.map W.int) S)
  | [x] => match lsW x S with
    | some xs => some (mkL m xs S)
    | none => match dcW x S with
      | some kvs => some (mkL m (kvs.map fun kv => kW kv.1) S)
      | none => none
  | _ => none
def tupleN : PN := fun ws S => match ws with
  | [.tup xs] => some (.tup xs, S)
  | [x] => match lsW x S with
    | some xs => some (.tup xs, S)
    | _ => none
  | _ => none
def blsW : List W → Option (List Bool)
  | [] => some []
  | .bl b :: r => (blsW r).map fun bs => b :: bs
  | _ => none
def anyN : PN := fun ws S => match ws with
  | [x] => match lsW x S with
    | some xs => (blsW xs).map fun bs => (.bl (bs.any id), S)
    | _ => none
  | _ => none
def allN : PN := fun ws S => match ws with
  | [x] => match lsW x S with
    | some xs => (blsW xs).map fun bs => (.bl (bs.all id), S)
    | _ => none
  | _ => none
def strsW : List W → Option (List Str)
  | [] => some []
  | .str x :: r => (strsW r).map fun bs => x :: bs
  | _ => none
/-- a method's type, seen ahead of its arguments -/
def tyM (T : String) (x : W) (S : Store) : Bool := match x with
  | .str _ => decide (T = "str")
  | .lst _ => decide (T = "list")
  | .dic _ _ => decide (T = "dict")
  | .ref a => match S[a]? with
    | some (.lst _) => decide (T = "list")
    | some (.dic _) => decide (T = "dict")
    | _ => false
  | _ => false
def eMeth (T : String) (f : W → PN) (o : EM) (as : List EM) : EM := fun e S => (o e S).bind fun x S1 => if tyM T x S1 then (evs as e S1).bind fun xs S2 => lift (f x xs S2) else .bad
def appendM : W → PN := fun x ws S => match x, ws with
  | .ref a, [w] => match S[a]? with
    | some (.lst xs) => if xs.length < sizeLine then some (.non, S.set a (.lst (xs ++ [w]))) else none
    | _ => none
  | _, _ => none
def popM : W → PN := fun x ws S => match x, ws with
  | .ref a, [] => match S[a]? with
    | some (.lst xs) => match xs[xs.length - 1]? with
      | some w => some (w, S.set a (.lst xs.dropLast))
      | none => none
    | _ => none
  | _, _ => none
def joinM : W → PN := fun x ws S => match x, ws with
  | .str s, [.tup ys] => match strsW ys with
      | some zs => if (zs.map (·.length)).sum + zs.length * s.length ≤ 16777216 then some (.str (Txt.join s zs), S) else none
      | none => none
  | .str s, [y] => match lsW y S with
    | some ys => match strsW ys with
      | some zs => if (zs.map (·.length)).sum + zs.length * s.length ≤ 16777216 then some (.str (Txt.join s zs), S) else none
      | none => none
    | _ => none
  | _, _ => none
def splitM (m : Bool) : W → PN := fun x ws S => match x, ws with
  | .str a, [.str b] => if b.length ≠ 0 ∧ a.length + 2 ≤ sizeLine then some (mkL m ((Txt.split a b).map W.str) S) else none
  | _, _ => none
def mergeW (kvs more : List (Key × W)) : List (Key × W) := more.foldl (fun acc kv => putW acc kv.1 kv.2) kvs
def neqR (a : Nat) : W → Bool
  | .ref b => decide (a ≠ b)
  | _ => true
def updateM : W → PN := fun x ws S => match x, ws with
  | .ref a, [y] => match S[a]?, dcW y S with
    | some (.dic kvs), some more => if neqR a y = true ∧ kvs.length + more.length ≤ sizeLine then some (.non, S.set a (.dic (mergeW kvs more))) else none
    | _, _ => none
  | _, _ => none
/-- x[lo:hi] -/
def partW : W → Option (Option Int)
  | .int i => some (some i)
  | _ => none
abbrev OM := Option EM
def evO (o : OM) (e : En) (S : Store) : R (Option Int) := match o with
  | none => .ok none S
  | some a => (a e S).bind fun w S1 => match w with
    | .int i => .ok (some i) S1
    | _ => .bad
def cutL {α : Type} (xs : List α) (lo hi : Option Int) : List α := (xs.drop (HT.sIx xs.length 0 lo)).take (HT.sIx xs.length xs.length hi - HT.sIx xs.length 0 lo)
def cutW (m : Bool) (x : W) (lo hi : Option Int) (S : Store) : Option (W × Store) := match x with
  | .tup xs => some (.tup (cutL xs lo hi), S)
  | .scr ns => some (mkL m ((cutL ns lo hi).map W.int) S)
  | .str z => if z.length ≤ sizeLine then some (.str (cutS z lo hi), S) else none
  | x => match lsW x S with
    | some xs => some (mkL m (cutL xs lo hi) S)
    | _ => none
def eCut (m : Bool) (a : EM) (lo hi : OM) : EM := fun e S => (a e S).bind fun x S1 => (evO lo e S1).bind fun l S2 => (evO hi e S2).bind fun h S3 => lift (cutW m x l h S3)
/-- {k: v, ..} -/
def dicKV : List W → Option (List (Key × W))
  | [] => some []
  | k :: v :: r => match keyW k, dicKV r with
    | some k, some kvs => some ((k, v) :: kvs)
    | _, _ => none
  | _ => none
def mkD (m : Bool) (kvs : List (Key × W)) (S : Store) : W × Store := if m = true then (.ref S.length, S ++ [.dic kvs]) else (.dic (kvs.map (·.1)) (kvs.map (·.2)), S)
@[simp] theorem mkD_t (kvs : List (Key × W)) (S : Store) : mkD true kvs S = (.ref S.length, S ++ [.dic kvs]) := rfl
@[simp] theorem mkD_f (kvs : List (Key × W)) (S : Store) : mkD false kvs S = (.dic (kvs.map (·.1)) (kvs.map (·.2)), S) := rfl
def dicN (m : Bool) : PN := fun ws S => match dicKV ws with
  | some kvs => if kvs.length ≤ 15 then some (mkD m (mergeW [] kvs) S) else none
  | none => none

/-! ### soundness -/
section
variable {K : PySem.W.Frag} {mg : Str → Option Value} {H : Hp} {φ : Fi} {S : Store}
theorem ty_ok {w : W} {v : V} {a : String} (s : SR K mg H φ S) (r : VR K mg H φ w v) (h : tyName w S = some a) : TyX K H v (.type a) := by
  cases w with
  | non => cases h; cases (show v = .non from r); exact .base .non
  | bl b => cases h; cases (show v = .bl b from r); exact .base (.bl b)
  | int i => cases h; cases vint r; exact .base (.int i)
  | str x => cases h; cases vstr r; exact .base (.str x)
  | tup xs =>
    cases h
    obtain ⟨p, vs, rfl, t, rr⟩ := vtup r
    rcases t with t | ⟨o, its, n, h1, h2, _⟩
    · exact .base (.tup t)
    · exact .kTuple h1 h2
  | lst xs =>
    cases h
    simp only [VR] at r
    obtain ⟨p, vs, rfl, t, rr⟩ := r
    exact .base (.lst t.2)
  | dic ks ws =>
    cases h
    simp only [VR] at r
    obtain ⟨p, us, rfl, _, t, _⟩ := r
    exact .base (.dK t)
  | scr ns =>
    cases h
    obtain ⟨p, rfl, t⟩ := vscr r
    rcases t with ⟨o, t⟩ | ⟨o, its, n, h1, h2, _⟩
    · exact .base (.frz t)
    · exact .kList h1 h2
  | ref a =>
    simp only [tyName] at h
    split at h
    · rename_i xs e0
      cases h
      obtain ⟨p, us, rfl, t, hp, rr⟩ := vlst s r e0
      exact .base (.lst hp)
    · rename_i kvs e0
      cases h
      obtain ⟨p, us, rfl, t, hp, rr⟩ := vdic s r e0
      exact .base (.dK hp)
    · cases h
  | _ => cases h
theorem kit_tab : ∀ a ∈ ["NoneType", "bool", "int", "str", "tuple", "list", "dict"], ∀ n ∈ tyNs, kitB a n = some (isTy a n) := by decide +kernel
theorem tyName_in {w : W} {a : String} (h : tyName w S = some a) : a ∈ ["NoneType", "bool", "int", "str", "tuple", "list", "dict"] := by
  unfold tyName at h
  split at h
  all_goals first
    | (cases h; decide)
    | (cases h)
    | (split at h <;> first | (cases h; decide) | cases h)
theorem tysW_ok {a : String} (ha : a ∈ ["NoneType", "bool", "int", "str", "tuple", "list", "dict"]) : ∀ {cs : List W} {vs : List V} {ns : List String}, VRs K mg H φ cs vs → tysW cs = some ns →
    ∃ us : List Value, Paired ClsV vs us ∧ PySem.W.kitAny K (.type a) us = some (ns.any (isTy a))
  | [], vs, b, r, h => by
    simp only [VRs] at r
    subst r
    cases h
    exact ⟨[], .nil, kitAny_nil⟩
  | c :: cs, vs, b, r, h => by
    simp only [VRs] at r
    obtain ⟨v, r', rfl, r1, r2⟩ := r
    cases c with
    | ty n =>
      simp only [tysW] at h
      split at h
      · rename_i hn
        simp only [Option.map_eq_some_iff] at h
        obtain ⟨ns, h1, rfl⟩ := h
        cases (show v = .ty n from r1)
        have k := kit_ty (K := K) (kit_tab a ha n hn)
        obtain ⟨us, p, q⟩ := tysW_ok ha r2 h1
        refine ⟨_, .cons (.ty n) p, ?_⟩
        rw [List.any_cons]
        cases e : isTy a n with
        | true =>
          rw [e] at k
          exact kitAny_cons k (fun z => by cases z) fun _ => rfl
        | false =>
          rw [e] at k
          exact kitAny_cons k (fun _ => by rw [Bool.false_or]; exact q) fun z => by cases z
      · cases h
    | _ => cases h
def rIsiM (K : PySem.W.Frag) : List V → Hp → VK → Prop := fun xs H Q => rIsi K xs H Q ∨ rIsiT K xs H Q ∨ rIsiK K xs H Q
theorem call_isiM {X : Cx} : CallR X (.builtin "isinstance") (rIsiM X.K) := CallR.or call_isi (CallR.or call_isiT call_isiK)
theorem two {a b : W} {vs : List V} (r : VRs K mg H φ [a, b] vs) : ∃ v u, vs = [v, u] ∧ VR K mg H φ a v ∧ VR K mg H φ b u := by
  simp only [VRs] at r
  obtain ⟨v, r', rfl, r1, u, r'', rfl, r2, rfl⟩ := r
  exact ⟨v, u, rfl, r1, r2⟩
theorem one {a : W} {vs : List V} (r : VRs K mg H φ [a] vs) : ∃ v, vs = [v] ∧ VR K mg H φ a v := by
  simp only [VRs] at r
  obtain ⟨v, r', rfl, r1, rfl⟩ := r
  exact ⟨v, rfl, r1⟩
theorem nil0 {vs : List V} (r : VRs K mg H φ [] vs) : vs = [] := by
  simpa only [VRs] using r
theorem snd_isi : SndN K mg isiN (rIsiM K) := fun ws S u S' H φ vs Q s r h q => by
  unfold isiN at h
  split at h
  · rename_i x n
    obtain ⟨v, c, rfl, r1, r2⟩ := two r
    split at h
    · rename_i a e1
      split at h
      · rename_i hn
        cases h
        cases (show c = .ty n from r2)
        exact .inl ⟨v, .ty n, .type a, .type n, isTy a n, rfl, .ty n, ty_ok s r1 e1, kit_ty (kit_tab a (tyName_in e1) n hn), same_end s (by simp [VR]) q⟩
      · cases h
    · cases h
  · rename_i x cs
    obtain ⟨v, c, rfl, r1, r2⟩ := two r
    split at h
    · rename_i a e1
      simp only [Option.map_eq_some_iff] at h
      obtain ⟨ns, h1, h2⟩ := h
      cases h2
      obtain ⟨p, vs, rfl, t, rr⟩ := vtup r2
      obtain ⟨us, pp, kk⟩ := tysW_ok (K := K) (tyName_in e1) rr h1
      rcases t with t | ⟨o, its, n, g1, g2, g3, g4, g5⟩
      · exact .inr (.inl ⟨v, p, vs, .type a, us, _, rfl, t, pp, ty_ok s r1 e1, kk, same_end s (by simp [VR]) q⟩)
      · have e3 := ClsV.all pp g5
        obtain ⟨oc, od, dt, sl⟩ := o
        simp only at g2 g3
        subst g2 g3
        refine .inr (.inr ⟨v, p, od, us, n, sl, .type a, _, rfl, ?_, ty_ok s r1 e1, kk, same_end s (by simp [VR]) q⟩)
        rw [g1, ← e3]
      
    · cases h
  · cases h
def rLenM (K : PySem.W.Frag) : List V → Hp → VK → Prop := fun xs H Q => (∃ x n, xs = [x] ∧ LenV K x H n ∧ Q (.int n) H) ∨ ∃ a kvs, xs = [.ref a] ∧ H a = some (.dK kvs) ∧ Q (.int kvs.length) H
theorem call_lenM {X : Cx} : CallR X (.builtin "len") (rLenM X.K) := by
  intro pins s σ H xs us Q I r h
  rcases h with h | ⟨a, kvs, rfl, e, q⟩
  · exact call_len pins s σ H xs us Q I r h
  · obtain ⟨u, rfl, rx⟩ := vals1 r
    cases rx
    exact d_len I (.inl e) fun t s' I' => ⟨.int kvs.length, H, I', ⟨t, rfl⟩, q⟩
theorem snd_len : SndN K mg lenN (rLenM K) := fun ws S u S' H φ vs Q s r h q => by
  unfold lenN at h
  split at h
  · rename_i x
    obtain ⟨v, rfl, r1⟩ := one r
    split at h
    · rename_i hz
      cases h; cases vstr r1
      exact .inl ⟨.str x, x.length, rfl, ⟨hz, rfl⟩, same_end s (by simp [VR]) q⟩
    · cases h
  · rename_i xs
    obtain ⟨v, rfl, r1⟩ := one r
    cases h
    obtain ⟨p, us, rfl, t, rr⟩ := vtup r1
    exact .inl ⟨.ref p, us.length, rfl, .inr ⟨us, t.sq, rfl⟩, same_end s (by rw [rr.length]; simp [VR]) q⟩
  · rename_i ns
    obtain ⟨v, rfl, r1⟩ := one r
    cases h
    obtain ⟨p, rfl, t⟩ := vscr r1
    exact .inl ⟨.ref p, (ns.map V.int).length, rfl, .inl ⟨_, t.sq, rfl⟩, same_end s (by rw [List.length_map]; simp [VR]) q⟩
  · rename_i x _ _ _
    obtain ⟨v, rfl, r1⟩ := one r
    split at h
    · rename_i xs e0
      cases h
      obtain ⟨p, us, rfl, hp, rr⟩ := lsW_ok s r1 e0
      exact .inl ⟨.ref p, us.length, rfl, .inl ⟨us, SqL.of hp, rfl⟩, same_end s (by rw [rr.length]; simp [VR]) q⟩
    · split at h
      · rename_i kvs e0
        cases h
        obtain ⟨p, us, rfl, hp, rr⟩ := dcW_ok s r1 e0
        refine .inr ⟨p, us, rfl, hp, same_end s ?_ q⟩
        have : kvs.length = us.length := by have := congrArg List.length rr.1; simpa using this
        rw [this]; simp [VR]
      · cases h
  · cases h
theorem snd_abs : SndN K mg absN (fun xs H Q => ∃ i, xs = [.int i] ∧ Q (.int (if i < 0 then -i else i)) H) := fun ws S u S' H φ vs Q s r h q => by
  unfold absN at h
  split at h
  · rename_i i
    obtain ⟨v, rfl, r1⟩ := one r
    cases h; cases vint r1
    exact ⟨i, rfl, same_end s (by simp [VR]) q⟩
  · cases h
theorem snd_int : SndN K mg intN (fun xs H Q => (∃ i, xs = [.int i] ∧ Q (.int i) H) ∨ ∃ k, xs = [.bl k] ∧ Q (.int (if k then 1 else 0)) H) := fun ws S u S' H φ vs Q s r h q => by
  unfold intN at h
  split at h
  · rename_i i
    obtain ⟨v, rfl, r1⟩ := one r
    cases h; cases vint r1
    exact .inl ⟨i, rfl, same_end s (by simp [VR]) q⟩
  · rename_i b
    obtain ⟨v, rfl, r1⟩ := one r
    cases h; cases (show v = .bl b from r1)
    exact .inr ⟨b, rfl, same_end s (by simp [VR]) q⟩
  · cases h
def rStrM : List V → Hp → VK → Prop := fun xs H Q => (∃ i, xs = [.int i] ∧ i.natAbs.log2 < 1920 ∧ Q (.str (toString i)) H) ∨ (∃ a, xs = [.str a] ∧ Q (.str a) H) ∨ ∃ b, xs = [.bl b] ∧ Q (.str (if b then "True" else "False")) H
theorem call_str_bool {X : Cx} : CallR X (.type "str") (fun xs H Q => ∃ b, xs = [.bl b] ∧ Q (.str (if b then "True" else "False")) H) := by
  intro pins s σ H xs us Q I r h
  obtain ⟨b, rfl, q⟩ := h
  obtain ⟨u, rfl, r1⟩ := vals1 r
  cases r1
  exact PySem.P.str_of_bool ⟨.str _, H, I.tok _, ⟨_, rfl⟩, q⟩
theorem call_strM {X : Cx} : CallR X (.type "str") rStrM := CallR.or call_str_int (CallR.or SkE.call_str_str call_str_bool)
theorem log2_big {i : Int} (h : -big ≤ i ∧ i < big) : i.natAbs.log2 < 1920 := by
  have h1 : i.natAbs < 2 ^ 63 := by
    rw [big_def] at h
    omega
  by_cases h0 : i.natAbs = 0
  · rw [h0]; decide
  · have := (Nat.log2_lt h0).mpr h1
    omega
theorem snd_str : SndN K mg strN rStrM := fun ws S u S' H φ vs Q s r h q => by
  unfold strN at h
  split at h
  · rename_i i
    obtain ⟨v, rfl, r1⟩ := one r
    split at h
    · rename_i hz
      cases h; cases vint r1
      exact .inl ⟨i, rfl, log2_big hz, same_end s (by simp [VR]) q⟩
    · cases h
  · rename_i x
    obtain ⟨v, rfl, r1⟩ := one r
    cases h; cases vstr r1
    exact .inr (.inl ⟨x, rfl, same_end s (by simp [VR]) q⟩)
  · rename_i b
    obtain ⟨v, rfl, r1⟩ := one r
    cases h
    cases (show v = .bl b from r1)
    exact .inr (.inr ⟨b, rfl, same_end s (by simp [VR]) q⟩)
  · cases h
theorem snd_ord : SndN K mg ordN (fun xs H Q => ∃ x, xs = [.str x] ∧ x.length = 1 ∧ Q (.int (x.cps.getD 0 0 : Nat)) H) := fun ws S u S' H φ vs Q s r h q => by
  unfold ordN at h
  split at h
  · rename_i x
    obtain ⟨v, rfl, r1⟩ := one r
    split at h
    · rename_i hz
      cases h; cases vstr r1
      exact ⟨x, rfl, hz, same_end s (by simp [VR]) q⟩
    · cases h
  · cases h
theorem snd_min : SndN K mg minN (fun xs H Q => ∃ i j, xs = [.int i, .int j] ∧ Q (.int (if j < i then j else i)) H) := fun ws S u S' H φ vs Q s r h q => by
  unfold minN at h
  split at h
  · rename_i i j
    obtain ⟨v, w, rfl, r1, r2⟩ := two r
    cases h; cases vint r1; cases vint r2
    exact ⟨i, j, rfl, same_end s (by simp [VR]) q⟩
  · cases h
theorem snd_max : SndN K mg maxN (fun xs H Q => ∃ i j, xs = [.int i, .int j] ∧ Q (.int (if j > i then j else i)) H) := fun ws S u S' H φ vs Q s r h q => by
  unfold maxN at h
  split at h
  · rename_i i j
    obtain ⟨v, w, rfl, r1, r2⟩ := two r
    cases h; cases vint r1; cases vint r2
    exact ⟨i, j, rfl, same_end s (by simp [VR]) q⟩
  · cases h
def rListM (K : PySem.W.Frag) : List V → Hp → VK → Prop := fun xs H Q => (∃ p ys, xs = [.ref p] ∧ (SqL K H p ys ∨ SqT K H p ys) ∧ ∀ l, H l = none → Q (.ref l) (upd H l (.lst ys))) ∨ rListD xs H Q
theorem call_listM {X : Cx} (hc : X.calm = true) : CallR X (.type "list") (rListM X.K) := CallR.or call_list_of (call_list_dK hc)
theorem vkeys : ∀ {kvs : List (Key × W)} {us : List (Key × V)}, kvs.map (·.1) = us.map (·.1) → VRs K mg H φ (kvs.map fun kv => kW kv.1) (us.map fun kv => kV kv.1)
  | [], us, h => by
    have : us = [] := by simpa using h.symm
    subst this
    exact .nil
  | (k, w) :: kvs, us, h => by
    cases us with
    | nil => cases h
    | cons p us =>
      obtain ⟨k', v⟩ := p
      simp only [List.map_cons, List.cons.injEq] at h
      obtain ⟨e, h⟩ := h
      subst e
      refine .cons ?_ (vkeys h)
      cases k <;> simp [kW, kV, VR]
theorem snd_list {m : Bool} : SndN K mg (listN m) (rListM K) := fun ws S u S' H φ vs Q s r h q => by
  unfold listN at h
  split at h
  · rename_i xs
    obtain ⟨v, rfl, r1⟩ := one r
    have e := Option.some.inj h
    obtain ⟨p, us, rfl, t, rr⟩ := vtup r1
    exact .inl ⟨p, us, rfl, .inr t.sq, new_lst (m := m) s rr (by rw [e]; exact q)⟩
  · rename_i ns
    obtain ⟨v, rfl, r1⟩ := one r
    have e := Option.some.inj h
    obtain ⟨p, rfl, t⟩ := vscr r1
    exact .inl ⟨p, _, rfl, .inl t.sq, new_lst (m := m) s (VRs.ints ns) (by rw [e]; exact q)⟩
  · obtain ⟨v, rfl, r1⟩ := one r
    split at h
    · rename_i xs e0
      have e := Option.some.inj h
      obtain ⟨p, us, rfl, hp, rr⟩ := lsW_ok s r1 e0
      exact .inl ⟨p, us, rfl, .inl (SqL.of hp), new_lst (m := m) s rr (by rw [e]; exact q)⟩
    · split at h
      · rename_i kvs e0
        have e := Option.some.inj h
        obtain ⟨p, us, rfl, hp, rr⟩ := dcW_ok s r1 e0
        exact .inr ⟨p, us, rfl, hp, new_lst (m := m) s (vkeys rr.1) (by rw [e]; exact q)⟩
      · cases h
  · cases h
theorem snd_tuple : SndN K mg tupleN (fun xs H Q => ∃ p ys, xs = [.ref p] ∧ ((SqL K H p ys ∧ ∀ l, H l = none → Q (.ref l) (upd H l (.tup ys))) ∨ (SqT K H p ys ∧ Q (.ref p) H))) := fun ws S u S' H φ vs Q s r h q => by
  unfold tupleN at h
  split at h
  · rename_i xs
    obtain ⟨v, rfl, r1⟩ := one r
    cases h
    obtain ⟨p, us, rfl, t, rr⟩ := vtup r1
    exact ⟨p, us, rfl, .inr ⟨t.sq, same_end s r1 q⟩⟩
  · obtain ⟨v, rfl, r1⟩ := one r
    split at h
    · rename_i xs e0
      cases h
      obtain ⟨p, us, rfl, hp, rr⟩ := lsW_ok s r1 e0
      refine ⟨p, us, rfl, .inl ⟨SqL.of hp, fun l hl => ?_⟩⟩
      obtain ⟨x, s'⟩ := s.extra (o := .tup us) hl
      exact q _ _ _ x s' (by simp only [VR]; exact ⟨l, us, rfl, .inl upd_same, rr.mono x⟩)
    · cases h
  · cases h
theorem bls_ok : ∀ {ws : List W} {vs : List V} {bs : List Bool}, VRs K mg H φ ws vs → blsW ws = some bs → vs = bs.map V.bl
  | [], vs, bs, r, h => by cases h; simp only [VRs] at r; subst r; rfl
  | w :: ws, vs, bs, r, h => by
    simp only [VRs] at r
    obtain ⟨v, r', rfl, r1, r2⟩ := r
    cases w with
    | bl b =>
      simp only [blsW, Option.map_eq_some_iff] at h
      obtain ⟨cs, h1, rfl⟩ := h
      cases (show v = .bl b from r1)
      rw [bls_ok r2 h1]; rfl
    | _ => cases h
theorem strs_ok : ∀ {ws : List W} {vs : List V} {bs : List Str}, VRs K mg H φ ws vs → strsW ws = some bs → vs = bs.map V.str
  | [], vs, bs, r, h => by cases h; simp only [VRs] at r; subst r; rfl
  | w :: ws, vs, bs, r, h => by
    simp only [VRs] at r
    obtain ⟨v, r', rfl, r1, r2⟩ := r
    cases w with
    | str b =>
      simp only [strsW, Option.map_eq_some_iff] at h
      obtain ⟨cs, h1, rfl⟩ := h
      cases vstr r1
      rw [strs_ok r2 h1]; rfl
    | _ => cases h
theorem snd_any : SndN K mg anyN (rAny K) := fun ws S u S' H φ vs Q s r h q => by
  unfold anyN at h
  split at h
  · obtain ⟨v, rfl, r1⟩ := one r
    split at h
    · rename_i xs e0
      simp only [Option.map_eq_some_iff] at h
      obtain ⟨bs, h1, h2⟩ := h
      cases h2
      obtain ⟨p, us, rfl, hp, rr⟩ := lsW_ok s r1 e0
      have e := bls_ok rr h1
      subst e
      exact ⟨p, bs, rfl, SqL.of hp, same_end s (by simp [VR]) q⟩
    · cases h
  · cases h
theorem snd_all : SndN K mg allN (rAll K) := fun ws S u S' H φ vs Q s r h q => by
  unfold allN at h
  split at h
  · obtain ⟨v, rfl, r1⟩ := one r
    split at h
    · rename_i xs e0
      simp only [Option.map_eq_some_iff] at h
      obtain ⟨bs, h1, h2⟩ := h
      cases h2
      obtain ⟨p, us, rfl, hp, rr⟩ := lsW_ok s r1 e0
      have e := bls_ok rr h1
      subst e
      exact ⟨p, bs, rfl, SqL.of hp, same_end s (by simp [VR]) q⟩
    · cases h
  · cases h
/-! ### methods -/
def SndM (K : PySem.W.Frag) (mg : Str → Option Value) (f : W → PN) (r : V → List V → Hp → VK → Prop) : Prop := ∀ x ws S u S' H φ v vs Q, SR K mg H φ S → VR K mg H φ x v → VRs K mg H φ ws vs → f x ws S = some (u, S') →
  (∀ z H' φ', Ext H H' φ φ' → SR K mg H' φ' S' → VR K mg H' φ' u z → Q z H') → r v vs H Q
theorem tyM_ok {T : String} {x : W} {v : V} (s : SR K mg H φ S) (r : VR K mg H φ x v) (h : tyM T x S = true) : tyV K T v H := by
  cases x with
  | str z => cases vstr r; simp only [tyM, decide_eq_true_eq] at h; exact h
  | lst xs =>
    simp only [tyM, decide_eq_true_eq] at h
    simp only [VR] at r
    obtain ⟨p, vs, rfl, t, rr⟩ := r
    exact .inl ⟨h, vs, SqL.of t.2⟩
  | dic ks ws =>
    simp only [tyM, decide_eq_true_eq] at h
    simp only [VR] at r
    obtain ⟨p, us, rfl, _, t, _⟩ := r
    exact .inr (.inr (.inl ⟨h, .inl ⟨us, t⟩⟩))
  | ref a =>
    simp only [tyM] at h
    split at h
    · rename_i xs e0
      obtain ⟨p, us, rfl, t, hp, rr⟩ := vlst s r e0
      exact .inl ⟨of_decide_eq_true h, us, SqL.of hp⟩
    · rename_i kvs e0
      obtain ⟨p, us, rfl, t, hp, rr⟩ := vdic s r e0
      exact .inr (.inr (.inl ⟨of_decide_eq_true h, .inl ⟨us, hp⟩⟩))
    · cases h
  | _ => cases h
theorem meth_read {Wx : WX} {T : String} {f : W → PN} {r : V → List V → Hp → VK → Prop} {O : EM} {As : List EM} {σ : L2.St} {H : Hp} {Q : VK} (hf : SndM K mg f r) (h : rE K mg Wx (eMeth T f O As) σ H Q) : tBM K T r (rE K mg Wx O) (rA K mg Wx (evs As)) σ H Q := by
  obtain ⟨e, S, φ, er, sr, q⟩ := h
  refine ⟨e, S, φ, er, sr, PostR.bind q fun w S1 v H1 φ1 x1 s1 r1 q1 => ?_⟩
  cases ht : tyM T w S1 with
  | false => rw [ht, if_neg Bool.false_ne_true] at q1; exact q1.elim
  | true =>
    rw [ht, if_pos rfl] at q1
    refine ⟨tyM_ok s1 r1 ht, e, S1, φ1, er.mono x1, s1, q1.bind fun ws S2 vs H2 φ2 x2 s2 r2 q2 => ?_⟩
    obtain ⟨u, S', h1, h2⟩ := post_lift q2
    exact hf w ws S2 u S' H2 φ2 v vs Q s2 (r1.mono x2) r2 h1 h2
end
section
variable {X : Cx} {Wx : WX} {a b c o : Expr} {A B O : EM} {pos apos cpos : Pos} {es : List Expr} {As : List EM}
theorem m_bm {T id : String} {name : Str} {f : W → PN} {r : V → List V → Hp → VK → Prop} (pa : PlainAttrs T) (slot : Slot T name id) (hty : typeOf (.builtin id) = pure (.type "method_descriptor")) (hm : MtR X id r) (hf : SndM X.K X.mg f r) (ho : ME X Wx o O) (ha : MA X Wx (a :: es) (evs As))
    (hbase : attributeBase o name X.env (eval o X.env) = eval o X.env := by rfl)
    (hfew : ((backTo cpos (starEach (a :: es) X.env)).all (fun x => !x.1) && (backToKw cpos (keywordEach [] X.env)).all (fun x => x.1.isSome)
      && decide ((a :: es).length + ([] : List Keyword).length + (if ([] : List Keyword).isEmpty then 0 else 1) < 30)) = true := by rfl)
    (hline : (apos.endLine == cpos.line) = true := by rfl) (hs : starEach (a :: es) X.env = (false, eval a X.env) :: starEach es X.env := by rfl) (hplain : (backTo cpos (starEach es X.env)).any (·.1) = false := by rfl) :
    ME X Wx (.Call (.Attribute o name apos) (a :: es) [] cpos) (eMeth T f O As) := leE (pe_bm pa slot hty hm ho ha hbase hfew hline hs hplain) fun σ H Q h => meth_read hf h
theorem m_bm0 {T id : String} {name : Str} {f : W → PN} {r : V → List V → Hp → VK → Prop} (pa : PlainAttrs T) (slot : Slot T name id) (hty : typeOf (.builtin id) = pure (.type "method_descriptor")) (hm : MtR X id r) (hf : SndM X.K X.mg f r) (ho : ME X Wx o O)
    (hbase : attributeBase o name X.env (eval o X.env) = eval o X.env := by rfl) (hline : (apos.endLine == cpos.line) = true := by rfl) : ME X Wx (.Call (.Attribute o name apos) [] [] cpos) (eMeth T f O []) :=
  leE (pe_bm0 pa slot hty hm ho hbase hline) fun σ H Q h => by
    have q := meth_read hf h
    obtain ⟨e, S, φ, er, sr, q⟩ := h
    refine ⟨e, S, φ, er, sr, PostR.bind q fun w S1 v H1 φ1 x1 s1 r1 q1 => ?_⟩
    cases ht : tyM T w S1 with
    | false => rw [ht, if_neg Bool.false_ne_true] at q1; exact q1.elim
    | true =>
      rw [ht, if_pos rfl] at q1
      refine ⟨tyM_ok s1 r1 ht, ?_⟩
      simp only [evs, R.bind_ok] at q1
      obtain ⟨u, S', h1, h2⟩ := post_lift q1
      exact hf w [] S1 u S' H1 φ1 v [] Q s1 r1 .nil h1 h2
end
section
variable {K : PySem.W.Frag} {mg : Str → Option Value} {H : Hp} {φ : Fi} {S : Store}
theorem snd_append : SndM K mg appendM rAppend := fun x ws S u S' H φ v vs Q s rx r h q => by
  unfold appendM at h
  split at h
  · rename_i a w
    split at h
    · rename_i xs e0
      split at h
      · rename_i hz
        cases h
        obtain ⟨p, us, rfl, t, hp, rr⟩ := vlst s rx e0
        obtain ⟨z, rfl, rz⟩ := one r
        obtain ⟨x, s'⟩ := s.write (ob := .lst (xs ++ [w])) (o := .lst (us ++ [z])) t fun H' φ' x e => ⟨_, e, (rr.mono x).append (.one (rz.mono x))⟩
        exact ⟨p, us, z, rfl, rfl, hp, by rw [← rr.length]; exact hz, q _ _ _ x s' (by simp [VR])⟩
      · cases h
    · cases h
  · cases h
theorem VRs.dropLast : ∀ {ws : List W} {vs : List V}, VRs K mg H φ ws vs → VRs K mg H φ ws.dropLast vs.dropLast := fun {ws vs} r => by
  rw [List.dropLast_eq_take, List.dropLast_eq_take, ← r.length]
  exact r.take _
theorem snd_pop : SndM K mg popM rPop := fun x ws S u S' H φ v vs Q s rx r h q => by
  unfold popM at h
  split at h
  · rename_i a
    split at h
    · rename_i xs e0
      split at h
      · rename_i w ew
        cases h
        obtain ⟨p, us, rfl, t, hp, rr⟩ := vlst s rx e0
        have := nil0 r
        subst this
        obtain ⟨z, ez, rz⟩ := rr.get ew
        obtain ⟨x, s'⟩ := s.write (ob := .lst xs.dropLast) (o := .lst us.dropLast) t fun H' φ' x e => ⟨_, e, (rr.mono x).dropLast⟩
        exact ⟨p, us, z, rfl, rfl, hp, by rw [← rr.length]; exact ez, q _ _ _ x s' (rz.mono x)⟩
      · cases h
    · cases h
  · cases h
def rJoinM (K : PySem.W.Frag) : V → List V → Hp → VK → Prop := fun x xs H Q => ∃ a p, ∃ ys : List Str, x = .str a ∧ xs = [.ref p] ∧ (SqL K H p (ys.map V.str) ∨ SqT K H p (ys.map V.str)) ∧
    (ys.map (·.length)).sum + ys.length * a.length ≤ 16777216 ∧ Q (.str (Txt.join a ys)) H
theorem snd_join : SndM K mg joinM (rJoinM K) := fun x ws S u S' H φ v vs Q s rx r h q => by
  unfold joinM at h
  split at h
  · rename_i t ys
    split at h
    · rename_i zs e1
      split at h
      · rename_i hz
        cases h
        cases vstr rx
        obtain ⟨z, rfl, rz⟩ := one r
        obtain ⟨p, us, rfl, t, rr⟩ := vtup rz
        have e := strs_ok rr e1
        subst e
        exact ⟨_, p, zs, rfl, rfl, .inr t.sq, hz, same_end s (by simp [VR]) q⟩
      · cases h
    · cases h
  · rename_i t b _
    split at h
    · rename_i ys e0
      split at h
      · rename_i zs e1
        split at h
        · rename_i hz
          cases h
          cases vstr rx
          obtain ⟨z, rfl, rz⟩ := one r
          obtain ⟨p, us, rfl, hp, rr⟩ := lsW_ok s rz e0
          have e := strs_ok rr e1
          subst e
          exact ⟨_, p, zs, rfl, rfl, .inl (SqL.of hp), hz, same_end s (by simp [VR]) q⟩
        · cases h
      · cases h
    · cases h
  · cases h
theorem snd_split {m : Bool} : SndM K mg (splitM m) (fun x xs H Q => ∃ a b, x = .str a ∧ xs = [.str b] ∧ (b.length == 0) = false ∧ a.length + 2 ≤ sizeLine ∧ rNewStrs (Txt.split a b) H Q) := fun x ws S u S' H φ v vs Q s rx r h q => by
  unfold splitM at h
  split at h
  · rename_i t b
    split at h
    · rename_i hz
      have e := Option.some.inj h
      cases vstr rx
      obtain ⟨z, rfl, rz⟩ := one r
      cases vstr rz
      exact ⟨t, b, rfl, rfl, by simpa using hz.1, hz.2, new_lst (m := m) s (VRs.strs _) (by rw [e]; exact q)⟩
    · cases h
  · cases h
theorem mergeW_ok : ∀ {more : List (Key × W)} {ms : List (Key × V)} {kvs : List (Key × W)} {us : List (Key × V)}, KVR K mg H φ kvs us → KVR K mg H φ more ms → KVR K mg H φ (mergeW kvs more) (mergeK us ms)
  | [], ms, kvs, us, h, h' => by
    have : ms = [] := by simpa using h'.1.symm
    subst this
    exact h
  | (k, w) :: more, ms, kvs, us, h, h' => by
    obtain ⟨h1, h2⟩ := h'
    cases ms with
    | nil => cases h1
    | cons p ms =>
      obtain ⟨k', v⟩ := p
      simp only [List.map_cons, List.cons.injEq] at h1
      obtain ⟨e1, e2⟩ := h1
      subst e1
      have h2' : VRs K mg H φ (w :: more.map (·.2)) (v :: ms.map (·.2)) := h2
      simp only [VRs] at h2'
      obtain ⟨v', r', e3, r1, r2⟩ := h2'
      cases e3
      exact mergeW_ok (kvs := putW kvs k w) (us := putK us k v) (putW_ok h r1) ⟨e2, r2⟩
end
/-- d.update(e) -/
def rUpdD : V → List V → Hp → VK → Prop := fun x xs H Q => ∃ a b kvs more, x = .ref a ∧ xs = [.ref b] ∧ a ≠ b ∧ H a = some (.dK kvs) ∧ H b = some (.dK more) ∧ kvs.length + more.length ≤ sizeLine ∧ Q .non (upd H a (.dK (mergeK kvs more)))
theorem mt_update {X : Cx} : MtR X "dict.update" rUpdD := by
  intro pins s σ H x xs v us Q I rx rs h
  obtain ⟨a, b, kvs, more, rfl, rfl, hne, ha, hb, hz, q⟩ := h
  cases rx
  obtain ⟨u, rfl, ru⟩ := vals1 rs
  cases ru
  obtain ⟨z1, d1, vs1, r1, dd1⟩ := dk_of I.hok ha
  obtain ⟨z2, d2, vs2, r2, dd2⟩ := dk_of I.hok hb
  have hz' : vs1.length + vs2.length ≤ sizeLine := by rw [← r1.length, ← r2.length]; exact hz
  refine call_meetsIn PySem.F.slot_dict_update dd1.typeIs PySem.F.entry_dict_update (PySem.F.args_dict_update_2 _ _) (PySem.meets_dict_update (mixKind X.prog X.w) a b hne d2) ⟨_, _, dd1, dd2, hz', fun h' hmm h3 hs => ?_⟩
  have he : ∃ q, h'.get? a = some q := let ⟨q, _, _, hq, _⟩ := hmm; ⟨q, hq⟩
  have hz2 : (mergeK kvs more).length ≤ sizeLine := Nat.le_trans (length_mergeK more kvs) hz
  exact ⟨.non, _, d_write (t' := s.toks) I (by rw [ha]; exact True.intro) hs he (dk_new hz2 d1 (r2.merge r1) hmm), rfl, q⟩
section
variable {K : PySem.W.Frag} {mg : Str → Option Value} {H : Hp} {φ : Fi} {S : Store}
theorem snd_update : SndM K mg updateM rUpdD := fun x ws S u S' H φ v vs Q s rx r h q => by
  unfold updateM at h
  split at h
  · rename_i a y
    split at h
    · rename_i kvs more e0 e1
      split at h
      · rename_i hz
        cases h
        obtain ⟨p, us, rfl, t, hp, rr⟩ := vdic s rx e0
        obtain ⟨z, rfl, rz⟩ := one r
        obtain ⟨p', us', rfl, hp', rr'⟩ := dcW_ok s rz e1
        obtain ⟨x, s'⟩ := s.write (ob := .dic (mergeW kvs more)) (o := .dK (mergeK us us')) t fun H' φ' x e => ⟨_, e, mergeW_ok (rr.mono x) (rr'.mono x)⟩
        have l1 : kvs.length = us.length := by have := congrArg List.length rr.1; simpa using this
        have l2 : more.length = us'.length := by have := congrArg List.length rr'.1; simpa using this
        refine ⟨p, p', us, us', rfl, rfl, fun e => ?_, hp, hp', by rw [← l1, ← l2]; exact hz.2, q _ _ _ x s' (by simp [VR])⟩
        subst e
        cases y with
        | ref b =>
          obtain ⟨p2, e2, t2⟩ := vref rz
          cases e2
          have := hz.1
          simp only [neqR, decide_eq_true_eq] at this
          exact this ((List.getElem?_inj (List.getElem?_eq_some_iff.mp t).1 s.nd).mp (t.trans t2.symm))
        | dic ks ws =>
          simp only [VR] at rz
          obtain ⟨p2, _, e2, o2, _⟩ := rz
          cases e2
          exact o2.1 (List.mem_of_getElem? t)
        | _ => cases e1
      · cases h
    · cases h
  · cases h

/-! ### slices -/
theorem cutL_eq {xs : List V} {lo hi : Option Int} : cutL xs lo hi = cutV xs lo hi := rfl
theorem VRs.cut {ws : List W} {vs : List V} (r : VRs K mg H φ ws vs) (lo hi : Option Int) : VRs K mg H φ (cutL ws lo hi) (cutV vs lo hi) := by
  unfold cutL cutV
  rw [r.length]
  exact (r.drop _).take _
theorem cutL_map {α β : Type} (f : α → β) (xs : List α) (lo hi : Option Int) : cutL (xs.map f) lo hi = (cutL xs lo hi).map f := by
  unfold cutL
  rw [List.length_map, List.map_take, List.map_drop]
def rSlM (K : PySem.W.Frag) : V → Option Int → Option Int → Hp → VK → Prop := fun x lo hi H Q => rSlL K x lo hi H Q ∨ (rSlA K x lo hi H Q ∨ rSlS x lo hi H Q)
theorem sl_M {X : Cx} : SlR X (rSlM X.K) := SlR.or sl_list (SlR.or sl_tupA sl_str)
theorem cut_whole {ws : List W} {lo hi : Option Int} {n : Nat} (e : ws.length = n) (h : HT.sIx n 0 lo = 0 ∧ HT.sIx n n hi = n) : cutL ws lo hi = ws := by
  unfold cutL
  rw [e, h.1, h.2, List.drop_zero, Nat.sub_zero, ← e, List.take_length]
theorem cut_ok {m : Bool} {x u : W} {v : V} {S' : Store} {lo hi : Option Int} {Q : VK} (s : SR K mg H φ S) (r : VR K mg H φ x v) (h : cutW m x lo hi S = some (u, S'))
    (q : ∀ z H' φ', Ext H H' φ φ' → SR K mg H' φ' S' → VR K mg H' φ' u z → Q z H') : rSlM K v lo hi H Q := by
  unfold cutW at h
  split at h
  · rename_i xs
    cases h
    obtain ⟨p, us, rfl, t, rr⟩ := vtup r
    refine .inr (.inl ⟨p, us, rfl, t.sq, fun hw => ?_, fun hw p' hp' => ?_⟩)
    · rw [cut_whole rr.length hw] at q
      exact same_end s r q
    · obtain ⟨x, s'⟩ := s.extra (o := .tup (cutV us lo hi)) hp'
      exact q _ _ _ x s' (by simp only [VR]; exact ⟨p', _, rfl, .inl upd_same, (rr.cut lo hi).mono x⟩)
  · rename_i ns
    have e := Option.some.inj h
    obtain ⟨p, rfl, t⟩ := vscr r
    have rr : VRs K mg H φ (ns.map W.int) (ns.map V.int) := VRs.ints ns
    have r2 := rr.cut lo hi
    rw [cutL_map] at r2
    exact .inl ⟨p, _, rfl, t.sq, new_lst (m := m) s r2 (by rw [e]; exact q)⟩
  · rename_i z
    split at h
    · rename_i hz
      cases h
      cases vstr r
      exact .inr (.inr ⟨z, rfl, hz, same_end s (by simp [VR]) q⟩)
    · cases h
  · split at h
    · rename_i xs e0
      have e := Option.some.inj h
      obtain ⟨p, us, rfl, hp, rr⟩ := lsW_ok s r e0
      exact .inl ⟨p, us, rfl, SqL.of hp, new_lst (m := m) s (rr.cut lo hi) (by rw [e]; exact q)⟩
    · cases h
end
section
variable {X : Cx} {Wx : WX} {a b c o : Expr} {A B O : EM} {pos apos cpos : Pos} {es : List Expr} {As : List EM} {lo hi : Option Expr} {L U : OM}
/-- a slice's part -/
def rO (K : PySem.W.Frag) (mg : Str → Option Value) (Wx : WX) (m : OM) : TO := fun σ H Q => ∃ e S φ, ER K mg H φ e σ ∧ SR K mg H φ S ∧ PostR K mg Wx (fun _ _ a b => a = b) σ H φ Q (evO m e S)
abbrev MO (X : Cx) (Wx : WX) (x : Option Expr) (m : OM) : Prop := PO X x (rO X.K X.mg Wx m)
theorem leO {X : Cx} {x : Option Expr} {t t' : TO} (h : PO X x t) (g : ∀ σ H Q, t' σ H Q → t σ H Q) : PO X x t' := ⟨fun pins s σ H Q I q => h.run pins s σ H Q I (g σ H Q q)⟩
theorem mo_none : MO X Wx none none := leO po_none fun σ H Q ⟨e, S, φ, er, sr, q⟩ => PostR.ok_at (a := (none : Option Int)) q sr rfl
theorem mo_some (h : ME X Wx a A) : MO X Wx (some a) (some A) := leO (po_some h) fun σ H Q ⟨e, S, φ, er, sr, q⟩ => ⟨e, S, φ, er, sr, PostR.bind q fun w S1 v H1 φ1 x1 s1 r1 q1 => by
  cases w with
  | int i => cases vint r1; exact ⟨i, rfl, PostR.ok_at (a := some i) q1 s1 rfl⟩
  | _ => exact q1.elim⟩
theorem m_cut {m : Bool} {p2 : Pos} (ha : ME X Wx a A) (hl : MO X Wx lo L) (hu : MO X Wx hi U) : ME X Wx (.Subscript a (.Slice lo hi none p2) pos) (eCut m A L U) :=
  leE (pe_slice sl_M ha hl hu) fun σ H Q ⟨e, S, φ, er, sr, q⟩ => ⟨e, S, φ, er, sr, PostR.bind q fun w S1 v H1 φ1 x1 s1 r1 q1 => ⟨e, S1, φ1, er.mono x1, s1, PostR.bind q1 fun l S2 l' H2 φ2 x2 s2 r2 q2 => ⟨e, S2, φ2, (er.mono x1).mono x2, s2, PostR.bind q2 fun u S3 u' H3 φ3 x3 s3 r3 q3 => by
    subst r2 r3
    obtain ⟨z, S', h1, h2⟩ := post_lift q3
    exact cut_ok s3 ((r1.mono x2).mono x3) h1 h2⟩⟩⟩

/-! ### displays of dicts -/
def flat (prs : List (EM × EM)) : List EM := prs.flatMap fun p => [p.1, p.2]
def flatV (ps : List (V × V)) : List V := ps.flatMap fun p => [p.1, p.2]
abbrev MPs (X : Cx) (Wx : WX) (pos : Pos) (ks : List (Option Expr)) (vs : List Expr) (prs : List (EM × EM)) : Prop := PPs X pos ks vs (prs.map fun p => (rE X.K X.mg Wx p.1, rE X.K X.mg Wx p.2))
theorem mps_nil : MPs X Wx pos [] [] [] := pps_nil
theorem mps_cons {k v : Expr} {ks : List (Option Expr)} {vs : List Expr} {M N : EM} {prs : List (EM × EM)} (hk : ME X Wx k M) (hv : ME X Wx v N) (hr : MPs X Wx pos ks vs prs) : MPs X Wx pos (some k :: ks) (v :: vs) ((M, N) :: prs) := pps_cons hk hv hr
theorem pairs_read {K : PySem.W.Frag} {mg : Str → Option Value} : ∀ {prs : List (EM × EM)} {e : En} {S : Store} {σ : L2.St} {H : Hp} {φ : Fi} {G : List V → Hp → Prop} {P : List (V × V) → Hp → Prop}, (∀ ps H', G (flatV ps) H' → P ps H') → ER K mg H φ e σ → SR K mg H φ S → PostR K mg Wx (VRs K mg) σ H φ G (evs (flat prs) e S) →
    tPairs (prs.map fun p => (rE K mg Wx p.1, rE K mg Wx p.2)) σ H P
  | [], e, S, σ, H, φ, G, P, hG, er, sr, q => hG [] H (PostR.ok_at q sr .nil)
  | (M, N) :: prs, e, S, σ, H, φ, G, P, hG, er, sr, q => ⟨e, S, φ, er, sr, PostR.bind q fun w S1 v H1 φ1 x1 s1 r1 q1 => by
    have q1' : PostR K mg Wx (VRs K mg) σ H1 φ1 G ((N e S1).bind fun y S2 => ((evs (flat prs) e S2).bind fun xs S3 => R.ok (y :: xs) S3).bind fun xs S3 => R.ok (w :: xs) S3) := by
      have e0 : (evs (N :: flat prs) e S1).bind (fun xs S2 => R.ok (w :: xs) S2) = (N e S1).bind fun y S2 => ((evs (flat prs) e S2).bind fun xs S3 => R.ok (y :: xs) S3).bind fun xs S3 => R.ok (w :: xs) S3 := by
        show ((N e S1).bind fun y S2 => (evs (flat prs) e S2).bind fun xs S3 => R.ok (y :: xs) S3).bind (fun xs S2 => R.ok (w :: xs) S2) = _
        cases N e S1 <;> rfl
      rw [← e0]; exact q1
    refine ⟨e, S1, φ1, er.mono x1, s1, PostR.bind q1' fun y S2 v2 H2 φ2 x2 s2 r2 q2 => ?_⟩
    refine pairs_read (prs := prs) (G := fun vs H' => G (v :: v2 :: vs) H') (fun ps H' g => hG ((v, v2) :: ps) H' g) ((er.mono x1).mono x2) s2 ?_
    cases he : evs (flat prs) e S2 with
    | bad => rw [he] at q2; exact q2.elim
    | exc z S3 => rw [he] at q2; exact q2
    | ok xs S3 =>
      rw [he] at q2
      intro vs H3 φ3 x3 s3 r3
      exact q2 _ H3 φ3 x3 s3 (.cons ((r1.mono x2).mono x3) (.cons (r2.mono x3) r3))⟩
theorem dicKV_ok {K : PySem.W.Frag} {mg : Str → Option Value} {H : Hp} {φ : Fi} : ∀ {ws : List W} {ps : List (V × V)} {kvs : List (Key × W)}, VRs K mg H φ ws (flatV ps) → dicKV ws = some kvs → ∃ us : List (Key × V), ps = us.map (fun kv => (kV kv.1, kv.2)) ∧ KVR K mg H φ kvs us
  | [], ps, kvs, r, h => by
    cases h
    simp only [VRs] at r
    cases ps with
    | nil => exact ⟨[], rfl, rfl, .nil⟩
    | cons p ps => cases r
  | [_], ps, kvs, r, h => by cases h
  | k :: w :: ws, ps, kvs, r, h => by
    cases ps with
    | nil => simp only [VRs] at r; obtain ⟨v, r', e, _⟩ := r; cases e
    | cons p ps =>
      obtain ⟨x, y⟩ := p
      have r' : VRs K mg H φ (k :: w :: ws) (x :: y :: flatV ps) := r
      simp only [VRs] at r'
      obtain ⟨v, t, e1, r1, v2, t2, e2, r2, r3⟩ := r'
      cases e1; cases e2
      simp only [dicKV] at h
      cases hk : keyW k with
      | none => rw [hk] at h; cases h
      | some k' =>
        cases hd : dicKV ws with
        | none => rw [hk, hd] at h; cases h
        | some kvs' =>
          rw [hk, hd] at h
          cases h
          obtain ⟨us, e3, e4, e5⟩ := dicKV_ok r3 hd
          subst e3
          refine ⟨(k', y) :: us, ?_, ?_, ?_⟩
          · rw [keyW_ok r1 hk]; rfl
          · simp only [List.map_cons, e4]
          · exact .cons r2 e5
theorem Ext.unhide {H H2 : Hp} {φ φ2 : Fi} {p : Addr} {o : HO} (hp : H p = none) (x : Ext (upd H p o) H2 (φ.hide p) φ2) : φ2 = Fi.hide ⟨φ2.t, φ.h⟩ p ∧ Ext H H2 φ ⟨φ2.t, φ.h⟩ := by
  refine ⟨?_, x.pre, rfl, fun q u h n => x.fr q u (by rw [upd_ne (ne_of_none h hp)]; exact h) n, fun q h n => ?_, fun q ys h => x.tup q ys (by rw [upd_ne (ne_of_none h hp)]; exact h), fun q u v h => x.frz q u v (by rw [upd_ne (ne_of_none h hp)]; exact h)⟩
  · obtain ⟨t2, h2⟩ := φ2
    have : h2 = p :: φ.h := x.hid
    subst this; rfl
  · have z := x.new q h n
    by_cases e : q = p
    · subst e; exact hp
    · rw [upd_ne e] at z; exact z
/-- the new object is written -/
theorem Ext.setNew {H H2 : Hp} {φ φ3 : Fi} {p : Addr} {o : HO} (hp : H p = none) (x : Ext H H2 φ φ3) : Ext H (upd H2 p o) φ φ3 :=
  ⟨x.pre, x.hid, fun q u h n => by rw [upd_ne (ne_of_none h hp)]; exact x.fr q u h n, x.new, fun q ys h => by rw [upd_ne (ne_of_none h hp)]; exact x.tup q ys h, fun q u v h => by rw [upd_ne (ne_of_none h hp)]; exact x.frz q u v h⟩
theorem Ext.grow {H H2 : Hp} {φ φ3 : Fi} {p : Addr} (hp : H p = none) (x : Ext H H2 φ φ3) : Ext H H2 φ ⟨φ3.t ++ [p], φ3.h⟩ := by
  obtain ⟨l, e⟩ := x.pre
  refine ⟨⟨l ++ [p], by show φ3.t ++ [p] = _; rw [e, List.append_assoc]⟩, x.hid, x.fr, fun q h n => ?_, x.tup, x.frz⟩
  rcases List.mem_append.mp (show q ∈ φ3.t ++ [p] from h) with z | z
  · exact x.new q z n
  · rw [List.mem_singleton.mp z]; exact hp
theorem XR.monoM {K : PySem.W.Frag} {mg : Str → Option Value} {H H' : Hp} {φ φ' : Fi} {x : Exn} {cls : Value} {d : Option Addr} (mo : Mon H H' φ φ') (he : ∀ p us, H p = some (.xd us) → H' p = some (.xd us)) (h : XR K mg H φ x cls d) : XR K mg H' φ' x cls d := by
  obtain ⟨C, m, e, h⟩ := h
  refine ⟨C, m, e, ?_⟩
  rcases h with h | ⟨dd, us, e0, e1, e2, e3⟩
  · exact .inl h
  · exact .inr ⟨dd, us, e0, e1, he _ _ e2, e3.monoM mo⟩
theorem m_disp {m : Bool} {ks : List (Option Expr)} {vs : List Expr} {prs : List (EM × EM)} (h : MPs X Wx pos ks vs prs) (hall : ks.all (·.isSome) = true := by rfl) (hl : ks.length = vs.length := by rfl) (h0 : ks ≠ [] := by exact List.cons_ne_nil _ _) (h15 : ks.length ≤ 15 := by decide) : ME X Wx (.Dict ks vs pos) (eN (dicN m) (flat prs)) :=
  leE (pe_disp h hall hl h0 h15) fun σ H Q ⟨e, S, φ, er, sr, q⟩ p hp => by
    obtain ⟨x0, s0⟩ := sr.hideNew (o := .dK []) hp
    refine pairs_read (Wx := Wx) (G := fun vs H2 => ∀ ps, vs = flatV ps → H2 p = some (.dK []) ∧ ∃ kvs : List (Key × V), ps = kvs.map (fun kv => (kV kv.1, kv.2)) ∧ kvs.length ≤ 15 ∧ Q (.ref p) (upd H2 p (.dK (mergeK [] kvs)))) (fun ps H2 g => g ps rfl) (ER.monoM x0 er) s0 ?_
    have q0 : PostR X.K X.mg Wx (VR X.K X.mg) σ H φ Q ((evs (flat prs) e S).bind fun xs S1 => lift (dicN m xs S1)) := q
    cases he : evs (flat prs) e S with
    | bad => rw [he] at q0; exact q0.elim
    | exc z S3 =>
      rw [he] at q0
      intro cls d H' φ' x s xr
      obtain ⟨ep, x'⟩ := x.unhide hp
      rw [ep] at s xr
      obtain ⟨mo, s'⟩ := s.show_
      exact q0 cls d H' _ x' s' (xr.monoM mo fun _ _ h => h)
    | ok xs S3 =>
      rw [he] at q0
      intro vs H2 φ2 x2 s2 r2 ps eps
      subst eps
      have hd : H2 p = some (.dK []) := x2.fr p _ upd_same (fun z => (sr.notin hp).1 z)
      obtain ⟨ep, x'⟩ := x2.unhide hp
      rw [ep] at s2 r2
      obtain ⟨u, S', h1, h2⟩ := post_lift q0
      simp only [dicN] at h1
      cases hk : dicKV xs with
      | none => rw [hk] at h1; cases h1
      | some kvs =>
        rw [hk] at h1
        dsimp only at h1
        split at h1
        · rename_i hz
          have e1 := Option.some.inj h1
          obtain ⟨us, e3, rk⟩ := dicKV_ok r2 hk
          have hl' : kvs.length = us.length := by have := congrArg List.length rk.1; simpa using this
          refine ⟨hd, us, e3, by omega, ?_⟩
          obtain ⟨mo, s3⟩ := s2.hideSet (o' := .dK (mergeK [] us)) hd rfl
          have rm := (mergeW_ok (K := X.K) (mg := X.mg) (H := H2) (φ := Fi.hide ⟨φ2.t, φ.h⟩ p) (kvs := []) (us := []) ⟨rfl, .nil⟩ rk).monoM mo
          have nt : p ∉ φ2.t := (s2.hd p List.mem_cons_self).1
          cases hm : m with
          | true =>
            subst hm
            have mo2 : Mon (upd H2 p (.dK (mergeK [] us))) (upd H2 p (.dK (mergeK [] us))) (Fi.hide ⟨φ2.t, φ.h⟩ p) ⟨φ2.t ++ [p], φ.h⟩ := ⟨⟨[p], rfl⟩, fun b u h n => ⟨h, fun z => by
              rcases List.mem_append.mp z with z | z
              · exact n.1 z
              · exact n.2 (by rw [List.mem_singleton.mp z]; exact List.mem_cons_self), fun z => n.2 (List.mem_cons_of_mem _ z)⟩, fun _ _ h => h, fun _ _ _ h => h⟩
            obtain ⟨_, s4, l4⟩ := s3.adopt (ob := .dic (mergeW [] kvs)) ⟨_, upd_same, rm.monoM mo2⟩ (fun z => (sr.notin hp).2 z)
            rw [mkD_t] at e1
            obtain ⟨e4, e5⟩ := Prod.mk.inj e1
            subst e4 e5
            exact h2 (.ref p) _ _ ((x'.setNew hp).grow hp) s4 (by simp only [VR]; exact ⟨p, rfl, l4⟩)
          | false =>
            subst hm
            obtain ⟨mo3, s4⟩ := s3.show_
            have rm' := rm.monoM mo3
            rw [mkD_f] at e1
            obtain ⟨e4, e5⟩ := Prod.mk.inj e1
            subst e4 e5
            exact h2 (.ref p) _ _ (x'.setNew hp) s4 (by simp only [VR]; exact ⟨p, _, rfl, ⟨nt, (sr.notin hp).2⟩, upd_same, rm'.1.symm, rm'.2⟩)
        · cases h1
/-- {} -/
def eDict0 (m : Bool) : EM := fun _ S => .ok (mkD m [] S).1 (mkD m [] S).2
theorem m_dict0 {m : Bool} : ME X Wx (.Dict [] [] pos) (eDict0 m) := leE pe_dnewK fun σ H Q ⟨e, S, φ, er, sr, q⟩ p hp => by
  cases m with
  | true =>
    obtain ⟨x, s', l⟩ := sr.push (ob := .dic []) (o := .dK []) hp fun H' φ' x' e => ⟨[], e, rfl, .nil⟩
    exact q (.ref p) _ _ x s' (by simp only [mkD_t, VR]; exact ⟨p, rfl, l⟩)
  | false =>
    obtain ⟨x, s'⟩ := sr.extra (o := .dK []) hp
    exact q (.ref p) _ _ x s' (by simp only [mkD_f, VR]; exact ⟨p, [], rfl, sr.notin hp, upd_same, rfl, .nil⟩)
end
end Sh

set_option Elab.async false
set_option linter.all false
set_option maxRecDepth 100000
set_option maxHeartbeats 2000000
/-! ShC: calls of the text's defs, attributes, methods, making of instances. -/
namespace Sh
open PySem PySem.Spec PyProof.Rows L2

abbrev Cal := List W → Store → R W
/-- n arguments, no others -/
def Ary (n : Nat) (C : Cal) : Prop := ∀ ws S, ws.length ≠ n → C ws S = .bad
theorem ary_run {ps n : Nat} {b : SM} : Ary ps (runDef ps n b) := fun ws S h => by
  unfold runDef
  rw [if_neg h]
theorem ary_runO {ps n : Nat} {b : SM} : Ary ps (runDefO ps n b) := fun ws S h => by
  unfold runDefO
  rw [if_neg h]
/-- the promise of a def: what the model computes -/
def spM (K : PySem.W.Frag) (mg : Str → Option Value) (n : Nat) (C : Cal) : Sp := fun vs H Q E => ∃ ws S φ, VRs K mg H φ ws vs ∧ SR K mg H φ S ∧ ws.length = n ∧ PostR K mg (fun c d _ H => E c d H) (VR K mg) [] H φ Q (C ws S)
theorem spM_len {K : PySem.W.Frag} {mg : Str → Option Value} {n : Nat} {C : Cal} {ps : List Str} (hn : n = ps.length) (vs : List V) (H : Hp) (Q : VK) (E : XK) (h : spM K mg n C vs H Q E) : vs.length = ps.length := by
  obtain ⟨ws, S, φ, r, s, l, q⟩ := h
  rw [← r.length, l, hn]
theorem spM_of {K : PySem.W.Frag} {mg : Str → Option Value} {n : Nat} {C : Cal} {Wx : WX} {σ : L2.St} {H : Hp} {φ : Fi} {S : Store} {ws : List W} {vs : List V} {Q : VK} (hC : Ary n C) (r : VRs K mg H φ ws vs) (s : SR K mg H φ S)
    (q : PostR K mg Wx (VR K mg) σ H φ Q (C ws S)) : spM K mg n C vs H Q (WE Wx σ) := by
  refine ⟨ws, S, φ, r, s, ?_, ?_⟩
  · by_cases h : ws.length = n
    · exact h
    · rw [hC ws S h] at q; exact q.elim
  · cases e : C ws S with
    | ok a S1 => rw [e] at q; exact q
    | exc x S1 => rw [e] at q; exact q
    | bad => rw [e] at q; exact q.elim
/-- the promise is kept, up to depth k -/
def DefOk (P : Program) (w : World) (K : PySem.W.Frag) (mg : Str → Option Value) (base : Heap) (k : Nat) (f : Addr) (ps : List Str) (C : Cal) : Prop := ∃ fd, FnOk P w K mg base (L2.CX P w) k f fd ps (spM K mg ps.length C) ∧ Binds K fd ps [] ∧ PySem.W.keepIn K (.ref f) = true ∧ Ary ps.length C
/-- .. a def that stands at a global name -/
def GlOk (P : Program) (w : World) (K : PySem.W.Frag) (mg : Str → Option Value) (base : Heap) (k : Nat) (x : Str) (ps : List Str) (C : Cal) : Prop := ∃ f, mg x = some (.ref f) ∧ DefOk P w K mg base k f ps C
/-- .. a method -/
def MtOk (P : Program) (w : World) (K : PySem.W.Frag) (mg : Str → Option Value) (base : Heap) (k : Nat) (c m : Str) (ps : List Str) (C : Cal) : Prop := ∃ A f, mg c = some (.ref A) ∧ Cls K A ∧ Meth K A m f ∧ DefOk P w K mg base k f ps C
/-- .. a class with its __init__ -/
def MkOk (P : Program) (w : World) (K : PySem.W.Frag) (mg : Str → Option Value) (base : Heap) (k : Nat) (c : Str) (ps : List Str) (C : Cal) : Prop := ∃ A f, mg c = some (.ref A) ∧ Mk K A f ∧ DefOk P w K mg base k f ps C

/-- an object without attributes, then __init__ -/
def eMake (c : Str) (C : Cal) (as : List EM) : EM := fun e S => (evs as e S).bind fun xs S1 => (C (.ref S1.length :: xs) (S1 ++ [.ins c []])).bind fun w S2 => match w with
  | .non => .ok (.ref S1.length) S2
  | _ => .bad
/-- o.m(..) -/
def eMet (c m : Str) (C : Cal) (o : EM) (as : List EM) : EM := fun e S => (o e S).bind fun x S1 => match x with
  | .ref a => match S1[a]? with
    | some (.ins c' fs) => if c' = c ∧ fs.lookup m = none then (evs as e S1).bind fun xs S2 => C (x :: xs) S2 else .bad
    | _ => .bad
  | _ => .bad
/-- known classes and the attributes that are their instances' own -/
abbrev CF := Str → List Str
def CfOk (K : PySem.W.Frag) (mg : Str → Option Value) (cf : CF) : Prop := ∀ c f, f ∈ cf c → ∃ A, mg c = some (.ref A) ∧ Cls K A ∧ NoAttr K A f
def fldW (cf : CF) (f : Str) : P1 := fun w S => match w with
  | .ref a => match S[a]? with
    | some (.ins c fs) => if f ∈ cf c then (fs.lookup f).map fun v => (v, S) else none
    | _ => none
  | _ => none
def putW' (f : Str) (v : W) : List (Str × W) → List (Str × W)
  | [] => [(f, v)]
  | (k, x) :: r => if k = f then (k, v) :: r else (k, x) :: putW' f v r
/-- o.f = e -/
def sFldW (cf : CF) (o : EM) (f : Str) (a : EM) : SM := fun e S => (a e S).thn e fun v S1 => (o e S1).thn e fun x S2 => match x with
  | .ref p => match S2[p]? with
    | some (.ins c fs) => if f ∈ cf c ∧ fs.length < 1000 then .nx e (S2.set p (.ins c (putW' f v fs))) else .bad
    | _ => .bad
  | _ => .bad

section
variable {K : PySem.W.Frag} {mg : Str → Option Value} {H : Hp} {φ : Fi}
theorem fs_get : ∀ {fs : List (Str × W)} {us : List (Str × V)} {f : Str} {w : W}, KVR K mg H φ fs us → fs.lookup f = some w → ∃ v, us.lookup f = some v ∧ VR K mg H φ w v
  | [], us, f, w, h, e => by cases e
  | (g, x) :: fs, us, f, w, h, e => by
    obtain ⟨h1, h2⟩ := h
    cases us with
    | nil => cases h1
    | cons p us =>
      obtain ⟨g', y⟩ := p
      simp only [List.map_cons, List.cons.injEq] at h1
      obtain ⟨e1, e2⟩ := h1
      subst e1
      have h2' : VRs K mg H φ (x :: fs.map (·.2)) (y :: us.map (·.2)) := h2
      simp only [VRs] at h2'
      obtain ⟨v', r', e3, r1, r2⟩ := h2'
      cases e3
      simp only [List.lookup_cons] at e ⊢
      cases hg : f == g with
      | true => rw [hg] at e; cases e; exact ⟨y, rfl, r1⟩
      | false => rw [hg] at e; exact fs_get ⟨e2, r2⟩ e
theorem fs_none : ∀ {fs : List (Str × W)} {us : List (Str × V)} {f : Str}, fs.map (·.1) = us.map (·.1) → fs.lookup f = none → us.lookup f = none
  | [], us, f, h1, e => by
    have : us = [] := by simpa using h1.symm
    subst this; rfl
  | (g, x) :: fs, us, f, h1, e => by
    cases us with
    | nil => cases h1
    | cons p us =>
      obtain ⟨g', y⟩ := p
      simp only [List.map_cons, List.cons.injEq] at h1
      obtain ⟨e1, e2⟩ := h1
      subst e1
      simp only [List.lookup_cons] at e ⊢
      cases hg : f == g with
      | true => rw [hg] at e; cases e
      | false => rw [hg] at e; exact fs_none e2 e
theorem fs_put {f : Str} {w : W} {v : V} (r : VR K mg H φ w v) : ∀ {fs : List (Str × W)} {us : List (Str × V)}, KVR K mg H φ fs us → KVR K mg H φ (putW' f w fs) (putF f v us)
  | [], us, h => by
    have : us = [] := by simpa using h.1.symm
    subst this
    exact ⟨rfl, .one r⟩
  | (g, x) :: fs, us, h => by
    obtain ⟨h1, h2⟩ := h
    cases us with
    | nil => cases h1
    | cons p us =>
      obtain ⟨g', y⟩ := p
      simp only [List.map_cons, List.cons.injEq] at h1
      obtain ⟨e1, e2⟩ := h1
      subst e1
      have h2' : VRs K mg H φ (x :: fs.map (·.2)) (y :: us.map (·.2)) := h2
      simp only [VRs] at h2'
      obtain ⟨v', r', e3, r1, r2⟩ := h2'
      cases e3
      simp only [putW', putF]
      by_cases hg : g = f
      · rw [if_pos hg, if_pos hg]
        exact ⟨by simp only [List.map_cons, e2], .cons r r2⟩
      · rw [if_neg hg, if_neg hg]
        obtain ⟨g1, g2⟩ := fs_put r (fs := fs) (us := us) ⟨e2, r2⟩
        exact ⟨by simp only [List.map_cons, g1], .cons r1 g2⟩
end

section
variable {X : Cx} {Wx : WX} {k : Nat} {C : Cal} {ps : List Str} {x c m : Str} {p pos apos : Pos} {a o : Expr} {es : List Expr} {A O : EM} {As : List EM}
theorem m_call (F : GlOk X.prog X.w X.K X.mg X.base k x ps C) (hr : Room k X.A) (tk : Takes X Wx) (hg : Gl X x) (ha : MA X Wx (a :: es) (evs As)) (hdb : (x == ("__debug__" : Str)) = false := by decide) (he : starEach (a :: es) X.env = (false, eval a X.env) :: starEach es X.env := by rfl) (hpl : (backTo pos (starEach es X.env)).any (·.1) = false := by rfl) :
    ME X Wx (.Call (.Name x p) (a :: es) [] pos) (eCall C As) := by
  obtain ⟨f, hm, fd, F, hb, hk, hC⟩ := F
  refine leE (pe_callSD (E := fun σ => WE Wx σ) F hr hg hm hk hb .nil (fun σ => passAt tk σ) ha hdb he hpl) fun σ H Q ⟨e, S, φ, er, sr, q⟩ => ⟨e, S, φ, er, sr, q.bind fun ws S1 vs H1 φ1 x1 s1 r1 q1 => ?_⟩
  show spM _ _ _ _ (vs ++ []) H1 Q (WE Wx σ)
  rw [List.append_nil]
  exact spM_of hC r1 s1 q1
theorem m_call0 (F : GlOk X.prog X.w X.K X.mg X.base k x ps C) (hr : Room k X.A) (tk : Takes X Wx) (hg : Gl X x) (hdb : (x == ("__debug__" : Str)) = false := by decide) : ME X Wx (.Call (.Name x p) [] [] pos) (eCall C []) := by
  obtain ⟨f, hm, fd, F, hb, hk, hC⟩ := F
  refine ⟨fun pins s σ H Q I ⟨e, S, φ, er, sr, q⟩ => ?_⟩
  refine wpAny_Call_Name_kw (ld_glob I hg hm ?_ hdb)
  exact PySem.W.callWith_K0 I.kIn hk (run_fnSD (us := []) (vs := []) (dvs := []) (E := fun σ => WE Wx σ) F hr hb .nil (passAt tk σ) I .nil (spM_of hC (VRs.nil) sr (by simpa [eCall, evs] using q)))
theorem m_fld {cf : CF} {f : Str} (hcf : CfOk X.K X.mg cf) (ha : ME X Wx a A) (hb : attributeBase a f X.env (eval a X.env) = eval a X.env := by rfl) : ME X Wx (.Attribute a f pos) (e1 (fldW cf f) A) :=
  leE (pe_fld ha hb) fun σ H Q ⟨e, S, φ, er, sr, q⟩ => ⟨e, S, φ, er, sr, q.bind fun w S1 v H1 φ1 x1 s1 r1 q1 => by
    obtain ⟨u, S', h1, h2⟩ := post_lift q1
    unfold fldW at h1
    split at h1
    · rename_i b
      split at h1
      · rename_i c fs e0
        split at h1
        · rename_i hf
          simp only [Option.map_eq_some_iff] at h1
          obtain ⟨z, h3, h4⟩ := h1
          cases h4
          obtain ⟨p, rfl, t⟩ := vref r1
          obtain ⟨C, dx, us, m, hp, kr⟩ := s1.at_ b _ p e0 t
          obtain ⟨C', m', hc, hn⟩ := hcf c f hf
          rw [m] at m'; cases m'
          obtain ⟨y, e3, ry⟩ := fs_get kr h3
          exact ⟨p, C, dx, us, y, rfl, hp, hc, hn, e3, h2 y H1 φ1 .refl s1 ry⟩
        · cases h1
      · cases h1
    · cases h1⟩
theorem ms_fld {cf : CF} {f : Str} {pos' : Pos} (hcf : CfOk X.K X.mg cf) (ho : ME X Wx o O) (ha : ME X Wx a A) (hs : swapsWith a (some (.Attribute o f pos')) pos.line X.env = pure false := by rfl) : MS X Wx (.Assign [.Attribute o f pos'] a pos) (sFldW cf O f A) :=
  leS (ps_fld ho ha hs) fun D σ H ⟨e, S, φ, er, sr, q⟩ => ⟨e, S, φ, er, sr, PostS.thn er q fun w S1 v H1 φ1 x1 s1 r1 q1 => ⟨e, S1, φ1, er.mono x1, s1, PostS.thn (er.mono x1) q1 fun y S2 u H2 φ2 x2 s2 r2 q2 => by
    cases y with
    | ref b =>
      dsimp only at q2
      split at q2
      · rename_i c fs e0
        split at q2
        · rename_i hf
          obtain ⟨p, rfl, t⟩ := vref r2
          obtain ⟨C, dx, us, m, hp, kr⟩ := s2.at_ b _ p e0 t
          obtain ⟨C', m', hc, hn⟩ := hcf c f hf.1
          rw [m] at m'; cases m'
          have hl : fs.length = us.length := by have := congrArg List.length kr.1; simpa using this
          obtain ⟨x3, s3⟩ := s2.write (ob := .ins c (putW' f w fs)) (o := .ins C dx (putF f v us)) t fun H' φ' x e => ⟨C, dx, _, m, e, fs_put ((r1.mono x2).mono x) (kr.mono x)⟩
          exact ⟨p, C, dx, us, rfl, hp, hc, hn, by rw [← hl]; exact hf.2, q2 σ _ φ2 x3 (((er.mono x1).mono x2).mono x3) s3⟩
        · exact q2.elim
      · exact q2.elim
    | _ => exact q2.elim⟩⟩
/-- what a method's call needs of the object -/
theorem met_at {K : PySem.W.Frag} {mg : Str → Option Value} {H : Hp} {φ : Fi} {S : Store} {b : Nat} {v : V} {fs : List (Str × W)} {M : Addr} (s : SR K mg H φ S) (r : VR K mg H φ (.ref b) v) (e0 : S[b]? = some (.ins c fs)) (hm : mg c = some (.ref M)) (hl : fs.lookup m = none) :
    ∃ p dx us, v = .ref p ∧ H p = some (.ins M dx us) ∧ us.lookup m = none := by
  obtain ⟨p, rfl, t⟩ := vref r
  obtain ⟨C, dx, us, m', hp, kr⟩ := s.at_ b _ p e0 t
  rw [hm] at m'; cases m'
  exact ⟨p, dx, us, rfl, hp, fs_none kr.1 hl⟩
theorem m_met {pl : Sem Bool} (F : MtOk X.prog X.w X.K X.mg X.base k c m ps C) (hr : Room k X.A) (tk : Takes X Wx) (ho : ME X Wx o O) (ha : MA X Wx (a :: es) (evs As))
    (hst : starEach (a :: es) X.env = (false, eval a X.env) :: starEach es X.env := by rfl) (hpl : (backTo pos (starEach es X.env)).any (·.1) = false := by rfl)
    (ht : eval (.Call (.Attribute o m apos) (a :: es) [] pos) X.env = (do
      let ov ← eval o X.env
      standAt apos.atName
      let (f, first) ← holding [ov] (getMethod ov m pl)
      callWith pos f first (backTo pos (starEach (a :: es) X.env)) (backToKw pos (keywordEach [] X.env))) := by rfl) :
    ME X Wx (.Call (.Attribute o m apos) (a :: es) [] pos) (eMet c m C O As) := by
  obtain ⟨M, f, hm, hc, hmt, fd, F, hb, hk, hC⟩ := F
  refine ⟨fun pins s σ H Q I ⟨e, S, φ, er, sr, q⟩ => ?_⟩
  have h1 : rE X.K X.mg Wx O σ H (fun x H1 => ∃ b dx fs, x = .ref b ∧ H1 b = some (.ins M dx fs) ∧ fs.lookup m = none ∧ rA X.K X.mg Wx (evs As) σ H1 fun vs H2 => spM X.K X.mg ps.length C (x :: vs) H2 Q (WE Wx σ)) := ⟨e, S, φ, er, sr, q.bind fun w S1 v H1 φ1 x1 s1 r1 q1 => by
    cases w with
    | ref b =>
      dsimp only at q1
      split at q1
      · rename_i c' fs e0
        split at q1
        · rename_i hf
          obtain ⟨rfl, hl⟩ := hf
          obtain ⟨p, dx, us, rfl, hp, hn⟩ := met_at s1 r1 e0 hm hl
          exact ⟨p, dx, us, rfl, hp, hn, e, S1, φ1, er.mono x1, s1, q1.bind fun ws S2 vs H2 φ2 x2 s2 r2 q2 => spM_of hC (.cons (r1.mono x2) r2) s2 q2⟩
        · exact q1.elim
      · exact q1.elim
    | _ => exact q1.elim⟩
  refine PySem.W.methodCall_KW (pl := pl) (thn (ho.run pins s σ H _ I h1) fun u s1 ⟨x, H1, I1, rx, b, dx, fs, ex, ea, l, q⟩ => ?_) ht
  subst ex
  obtain rfl : u = Value.ref b := rx
  refine getmeth_ok I1 ea hc hmt l ?_
  refine PySem.W.callWith_K (first := [.ref b]) (h₀ := X.base) I.ok.mod.kin hmt.kp (thn (ha.run pos pins s1 σ H1 _ I1 q) fun us s2 ⟨vs, H2, I2, r, q2⟩ => ⟨I2.kIn, ?_⟩) hst hpl
  exact run_fnSD (us := .ref b :: us) (vs := .ref b :: vs) (dvs := []) (E := fun σ => WE Wx σ) F hr hb .nil (passAt tk σ) I2 (.cons rfl r) (by rw [List.append_nil]; exact q2)
theorem m_met0 {pl : Sem Bool} (F : MtOk X.prog X.w X.K X.mg X.base k c m ps C) (hr : Room k X.A) (tk : Takes X Wx) (ho : ME X Wx o O)
    (ht : eval (.Call (.Attribute o m apos) [] [] pos) X.env = (do
      let ov ← eval o X.env
      standAt apos.atName
      let (f, first) ← holding [ov] (getMethod ov m pl)
      callWith pos f first (backTo pos (starEach [] X.env)) (backToKw pos (keywordEach [] X.env))) := by rfl) :
    ME X Wx (.Call (.Attribute o m apos) [] [] pos) (eMet c m C O []) := by
  obtain ⟨M, f, hm, hc, hmt, fd, F, hb, hk, hC⟩ := F
  refine ⟨fun pins s σ H Q I ⟨e, S, φ, er, sr, q⟩ => ?_⟩
  have h1 : rE X.K X.mg Wx O σ H (fun x H1 => ∃ b dx fs, x = .ref b ∧ H1 b = some (.ins M dx fs) ∧ fs.lookup m = none ∧ spM X.K X.mg ps.length C [x] H1 Q (WE Wx σ)) := ⟨e, S, φ, er, sr, q.bind fun w S1 v H1 φ1 x1 s1 r1 q1 => by
    cases w with
    | ref b =>
      dsimp only at q1
      split at q1
      · rename_i c' fs e0
        split at q1
        · rename_i hf
          obtain ⟨rfl, hl⟩ := hf
          obtain ⟨p, dx, us, rfl, hp, hn⟩ := met_at s1 r1 e0 hm hl
          exact ⟨p, dx, us, rfl, hp, hn, spM_of hC (.one r1) s1 (by simpa [evs] using q1)⟩
        · exact q1.elim
      · exact q1.elim
    | _ => exact q1.elim⟩
  refine PySem.W.methodCall_KW (pl := pl) (thn (ho.run pins s σ H _ I h1) fun u s1 ⟨x, H1, I1, rx, b, dx, fs, ex, ea, l, q⟩ => ?_) ht
  subst ex
  obtain rfl : u = Value.ref b := rx
  refine getmeth_ok I1 ea hc hmt l ?_
  exact PySem.W.callWith_K0 (first := [.ref b]) I1.kIn hmt.kp (run_fnSD (us := [.ref b]) (vs := [.ref b]) (dvs := []) (E := fun σ => WE Wx σ) F hr hb .nil (passAt tk σ) I1 (.cons rfl .nil) q)
/-! ### instances -/
theorem run_mk {CX : CXT} {M f : Addr} {fd : FuncData} {sp : Sp} {E : XK} {pins : List (Addr × Obj)} {σ : L2.St} {H : Hp} {s : Shared} {Q : VK} {us : List Value} {vs : List V} (Mk' : Mk X.K M f) (F : FnOk X.prog X.w X.K X.mg X.base CX k f fd ps sp) (hr : Room (k + 1) X.A) (hb : Binds X.K fd ps [])
    (hx : PassesAt CX X σ E) (I : Inv X pins σ H s) (r : Vals vs us)
    (h : ∀ x dx, H x = none → H dx = none → dx ≠ x → sp (.ref x :: vs) (upd (upd H dx (.own x)) x (.ins M dx [])) (fun v H2 => v = .non ∧ Q (.ref x) H2) E) :
    wpAny (model X.prog X.w) X.A (call (.ref M) us) (EP X pins σ Q) X.xe s := by
  have hq := h (s.heap.objs.size + 1) s.heap.objs.size (I.hok.fresh (Nat.le_succ _)) (I.hok.fresh (Nat.le_refl _)) (Nat.ne_of_lt (Nat.lt_succ_self _))
  have I2 := Inv.made (C := M) I
  have r2 : Vals (V.ref (s.heap.objs.size + 1) :: vs) (Value.ref (s.heap.objs.size + 1) :: us) := .cons rfl r
  have hl : (Value.ref (s.heap.objs.size + 1) :: us).length = ps.length := by
    have e := r2.length
    rw [F.len _ _ _ _ hq] at e
    exact e.symm
  have b := hb _ (Value.ref (s.heap.objs.size + 1) :: us) I2.kIn (by rw [List.append_nil]; exact hl)
  rw [List.append_nil] at b
  refine wpAny_call (make_map (f := f) I.kIn Mk'.makes Mk'.init (beq_iff_eq.mp Mk'.fn) (codeAny_mono (F.run _ X.stack _ _ ⟨Value.ref (s.heap.objs.size + 1) :: us, []⟩ (Value.ref (s.heap.objs.size + 1) :: us) _ _ E (hr.make M us [])
    (I2.env0.make M us []) b r2 hq) fun r s' hq' => ?_))
  cases r with
  | error e => exact hx pins _ _ e s' I2 hq'
  | ok fl =>
    cases fl with
    | ret u =>
      obtain ⟨v, H', I3, rv, ev, q3⟩ := I2.after hq'
      subst ev
      exact ⟨rv, ⟨V.ref (s.heap.objs.size + 1), H', I3, rfl, q3⟩⟩
    | next => exact False.elim hq'
    | brk => exact False.elim hq'
    | cont => exact False.elim hq'
theorem make_post {K : PySem.W.Frag} {mg : Str → Option Value} {n : Nat} {M : Addr} {σ : L2.St} {H : Hp} {φ : Fi} {S : Store} {ws : List W} {vs : List V} {Q : VK} (hC : Ary n C) (hm : mg c = some (.ref M)) (r : VRs K mg H φ ws vs) (s : SR K mg H φ S)
    (q : PostR K mg Wx (VR K mg) σ H φ Q ((C (.ref S.length :: ws) (S ++ [.ins c []])).bind fun w S2 => match w with
      | .non => .ok (.ref S.length) S2
      | _ => .bad)) (x dx : Addr) (hx : H x = none) (hd : H dx = none) (hne : dx ≠ x) : spM K mg n C (.ref x :: vs) (upd (upd H dx (.own x)) x (.ins M dx [])) (fun v H2 => v = .non ∧ Q (.ref x) H2) (WE Wx σ) := by
  obtain ⟨x1, s1⟩ := s.extra (o := .own x) hd
  obtain ⟨x2, s2, l2⟩ := s1.push (q := x) (ob := .ins c []) (o := .ins M dx []) (by rw [upd_ne (Ne.symm hne)]; exact hx) fun H' φ' x' e => ⟨M, dx, [], hm, e, rfl, .nil⟩
  have x12 := x1.trans x2
  have rx : VR K mg (upd (upd H dx (.own x)) x (.ins M dx [])) ⟨φ.t ++ [x], φ.h⟩ (.ref S.length) (.ref x) := by simp only [VR]; exact ⟨x, rfl, l2⟩
  refine spM_of (σ := σ) hC (.cons rx (r.mono x12)) s2 ?_
  have q' := PostR.ext x12 q
  refine PostR.bind q' fun w S2 v H3 φ3 x3 s3 r3 q3 => ?_
  cases w with
  | non => exact ⟨r3, PostR.ok_at (a := W.ref S.length) q3 s3 (rx.mono x3)⟩
  | _ => exact q3.elim
theorem m_make (F : MkOk X.prog X.w X.K X.mg X.base k c ps C) (hr : Room (k + 1) X.A) (tk : Takes X Wx) (hg : Gl X c) (ha : MA X Wx (a :: es) (evs As)) (hdb : (c == ("__debug__" : Str)) = false := by decide) (he : starEach (a :: es) X.env = (false, eval a X.env) :: starEach es X.env := by rfl) (hpl : (backTo pos (starEach es X.env)).any (·.1) = false := by rfl) :
    ME X Wx (.Call (.Name c p) (a :: es) [] pos) (eMake c C As) := by
  obtain ⟨M, f, hm, M', fd, F, hb, hk, hC⟩ := F
  refine ⟨fun pins s σ H Q I ⟨e, S, φ, er, sr, q⟩ => ?_⟩
  have h1 : rA X.K X.mg Wx (evs As) σ H (fun vs H1 => ∀ x dx, H1 x = none → H1 dx = none → dx ≠ x → spM X.K X.mg ps.length C (.ref x :: vs) (upd (upd H1 dx (.own x)) x (.ins M dx [])) (fun v H2 => v = .non ∧ Q (.ref x) H2) (WE Wx σ)) :=
    ⟨e, S, φ, er, sr, q.bind fun ws S1 vs H1 φ1 x1 s1 r1 q1 => make_post hC hm r1 s1 q1⟩
  refine wpAny_Call_Name_kw (ld_glob I hg hm ?_ hdb)
  refine PySem.W.callWith_K (h₀ := X.base) I.ok.mod.kin M'.kp (thn (ha.run pos pins s σ H _ I h1) fun us s1 ⟨vs, H1, I1, r, q⟩ => ⟨I1.kIn, ?_⟩) he hpl
  exact run_mk M' F hr hb (passAt tk σ) I1 r q
theorem m_make0 (F : MkOk X.prog X.w X.K X.mg X.base k c ps C) (hr : Room (k + 1) X.A) (tk : Takes X Wx) (hg : Gl X c) (hdb : (c == ("__debug__" : Str)) = false := by decide) : ME X Wx (.Call (.Name c p) [] [] pos) (eMake c C []) := by
  obtain ⟨M, f, hm, M', fd, F, hb, hk, hC⟩ := F
  refine ⟨fun pins s σ H Q I ⟨e, S, φ, er, sr, q⟩ => ?_⟩
  refine wpAny_Call_Name_kw (ld_glob I hg hm ?_ hdb)
  exact PySem.W.callWith_K0 I.kIn M'.kp (run_mk (us := []) (vs := []) M' F hr hb (passAt tk σ) I .nil (make_post hC hm .nil sr q))
/-! ### keywords, in the parameters' order -/
def KwOk (P : Program) (w : World) (K : PySem.W.Frag) (mg : Str → Option Value) (base : Heap) (k : Nat) (x : Str) (ps ks : List Str) (C : Cal) : Prop := ∃ f fd, mg x = some (.ref f) ∧ FnOk P w K mg base (L2.CX P w) k f fd ps (spM K mg ps.length C) ∧ PySem.W.keepIn K (.ref f) = true ∧ Ary ps.length C ∧
  ∀ (s : Shared) (us ws : List Value), us.length + ws.length = ps.length → ws.length = ks.length → BindsTo s fd ⟨us, ks.zip ws⟩ (ps.zip (us ++ ws))
abbrev MK (X : Cx) (Wx : WX) (kws : List Keyword) (m : AM) : Prop := PK X kws (rA X.K X.mg Wx m) ∧ ∀ e S ws S', m e S = .ok ws S' → ws.length = kws.length
theorem run_kw {CX : CXT} {f : Addr} {fd : FuncData} {sp : Sp} {E : XK} {ks : List Str} {pins : List (Addr × Obj)} {σ : L2.St} {H : Hp} {s : Shared} {Q : VK} {us ws : List Value} {vs zs : List V} (F : FnOk X.prog X.w X.K X.mg X.base CX k f fd ps sp) (hr : Room k X.A)
    (hb : BindsTo s fd ⟨us, ks.zip ws⟩ (ps.zip (us ++ ws))) (hx : PassesAt CX X σ E)
    (I : Inv X pins σ H s) (r : Vals vs us) (rz : Vals zs ws) (h : sp (vs ++ zs) H Q E) : wpAny (model X.prog X.w) X.A (call (.ref f) us (ks.zip ws)) (EP X pins σ Q) X.xe s := by
  refine wpAny_call (codeAny_mono (F.run X.A X.stack s H ⟨us, ks.zip ws⟩ (us ++ ws) (vs ++ zs) Q E hr I.env0 hb (r.append rz) h) fun r s' hq => ?_)
  cases r with
  | error e => exact hx pins H s e s' I hq
  | ok fl =>
    cases fl with
    | ret u => exact I.after hq
    | next => exact False.elim hq
    | brk => exact False.elim hq
    | cont => exact False.elim hq
def eCallK (C : Cal) (as ks : List EM) (n : Nat) : EM := fun e S => (evs as e S).bind fun xs S1 => (evs ks e S1).bind fun ys S2 => if ys.length = n then C (xs ++ ys) S2 else .bad
theorem leK {kws : List Keyword} {t t' : TA} (h : PK X kws t) (g : ∀ σ H Q, t' σ H Q → t σ H Q) : PK X kws t' := ⟨fun pos pins s σ H Q I q => h.run pos pins s σ H Q I (g σ H Q q)⟩
abbrev MKw (X : Cx) (Wx : WX) (kws : List Keyword) (m : AM) : Prop := PK X kws (rA X.K X.mg Wx m)
theorem mk_nil : MKw X Wx [] (evs []) := leK pk_nil fun σ H Q ⟨e, S, φ, er, sr, q⟩ => PostR.ok_at q sr .nil
theorem mk_cons {nm : Option Str} {kpos : Pos} {kws : List Keyword} (ha : ME X Wx a A) (hr : MKw X Wx kws (evs As)) : MKw X Wx (⟨nm, a, kpos⟩ :: kws) (evs (A :: As)) :=
  leK (pk_cons ha hr) fun σ H Q ⟨e, S, φ, er, sr, q⟩ => ⟨e, S, φ, er, sr, PostR.bind q fun w S1 v H1 φ1 x1 s1 r1 q1 => ⟨e, S1, φ1, er.mono x1, s1, q1.bind fun ws S2 vs H2 φ2 x2 s2 r2 q2 => q2.ok_at s2 (.cons (r1.mono x2) r2)⟩⟩
theorem m_callK0 {kws : List Keyword} {ks : List Str} {Ks : List EM} (F : KwOk X.prog X.w X.K X.mg X.base k x ps ks C) (hr : Room k X.A) (tk : Takes X Wx) (hg : Gl X x) (hkw : MKw X Wx kws (evs Ks))
    (hall : (backToKw pos (keywordEach kws X.env)).all (·.1.isSome) = true := by rfl) (hks : (backToKw pos (keywordEach kws X.env)).filterMap (·.1) = ks := by rfl) (hdb : (x == ("__debug__" : Str)) = false := by decide)
    (hpl : ((backTo pos (starEach [] X.env)).any (·.1) || (backToKw pos (keywordEach kws X.env)).any (·.1.isNone)) = false := by rfl) : ME X Wx (.Call (.Name x p) [] kws pos) (eCallK C [] Ks ks.length) := by
  obtain ⟨f, fd, hm, F, hk, hC, hb⟩ := F
  refine ⟨fun pins s σ H Q I ⟨e, S, φ, er, sr, q⟩ => ?_⟩
  have h1 : rA X.K X.mg Wx (evs Ks) σ H (fun zs H1 => zs.length = ks.length ∧ spM X.K X.mg ps.length C zs H1 Q (WE Wx σ)) := ⟨e, S, φ, er, sr, PostR.bind (show PostR X.K X.mg Wx (VR X.K X.mg) σ H φ Q ((evs Ks e S).bind fun ys S2 => if ys.length = ks.length then C ([] ++ ys) S2 else .bad) from q) fun ws S1 vs H1 φ1 x1 s1 r1 q1 => by
    split at q1
    · rename_i hl
      exact ⟨by rw [← r1.length]; exact hl, spM_of hC r1 s1 q1⟩
    · exact q1.elim⟩
  refine wpAny_Call_Name_kw (ld_glob I hg hm ?_ hdb)
  refine PySem.W.callWith_KW0 (h₀ := X.base) I.ok.mod.kin hk hall ?_ hpl
  refine thn (hkw.run pos pins s σ H _ I h1) fun ws s2 ⟨zs, H2, I2, rz, l, q2⟩ => ⟨I2.kIn, ?_⟩
  rw [hks]
  have hz : ws.length = ks.length := by rw [← rz.length]; exact l
  have hl : ps.length = ws.length := by rw [← rz.length]; exact (F.len _ _ _ _ q2).symm
  exact run_kw (us := []) (vs := []) F hr (hb s2 [] ws (by simp [hl]) hz) (passAt tk σ) I2 .nil rz q2
theorem m_callK {kws : List Keyword} {ks : List Str} {Ks : List EM} (F : KwOk X.prog X.w X.K X.mg X.base k x ps ks C) (hr : Room k X.A) (tk : Takes X Wx) (hg : Gl X x) (ha : MA X Wx (a :: es) (evs As)) (hkw : MKw X Wx kws (evs Ks))
    (hall : (backToKw pos (keywordEach kws X.env)).all (·.1.isSome) = true := by rfl) (hks : (backToKw pos (keywordEach kws X.env)).filterMap (·.1) = ks := by rfl) (hdb : (x == ("__debug__" : Str)) = false := by decide)
    (he : starEach (a :: es) X.env = (false, eval a X.env) :: starEach es X.env := by rfl)
    (hpl : ((backTo pos (starEach (a :: es) X.env)).any (·.1) || (backToKw pos (keywordEach kws X.env)).any (·.1.isNone)) = false := by rfl) : ME X Wx (.Call (.Name x p) (a :: es) kws pos) (eCallK C As Ks ks.length) := by
  obtain ⟨f, fd, hm, F, hk, hC, hb⟩ := F
  refine ⟨fun pins s σ H Q I ⟨e, S, φ, er, sr, q⟩ => ?_⟩
  have h1 : rA X.K X.mg Wx (evs As) σ H (fun vs H1 => rA X.K X.mg Wx (evs Ks) σ H1 fun zs H2 => zs.length = ks.length ∧ spM X.K X.mg ps.length C (vs ++ zs) H2 Q (WE Wx σ)) := ⟨e, S, φ, er, sr, q.bind fun ws S1 vs H1 φ1 x1 s1 r1 q1 => ⟨e, S1, φ1, er.mono x1, s1, q1.bind fun ys S2 zs H2 φ2 x2 s2 r2 q2 => by
    split at q2
    · rename_i hl
      exact ⟨by rw [← r2.length]; exact hl, spM_of hC ((r1.mono x2).append r2) s2 q2⟩
    · exact q2.elim⟩⟩
  refine wpAny_Call_Name_kw (ld_glob I hg hm ?_ hdb)
  refine PySem.W.callWith_KW (h₀ := X.base) I.ok.mod.kin hk hall (thn (ha.run pos pins s σ H _ I h1) fun us s1 ⟨vs, H1, I1, r, q⟩ => ?_) hpl he
  refine thn (hkw.run pos pins s1 σ H1 _ I1 q) fun ws s2 ⟨zs, H2, I2, rz, l, q2⟩ => ⟨I2.kIn, ?_⟩
  rw [hks]
  have hz : ws.length = ks.length := by rw [← rz.length]; exact l
  have hl := F.len _ _ _ _ q2
  rw [List.length_append] at hl
  exact run_kw F hr (hb s2 us ws (by rw [← r.length, ← rz.length]; exact hl) hz) (passAt tk σ) I2 r rz q2
end
end Sh

set_option Elab.async false
set_option linter.all false
set_option maxRecDepth 100000
set_option maxHeartbeats 2000000
/-! ShX: more methods: extend by a tuple; augmented stores. -/
namespace Sh
open PySem PySem.Spec PyProof.Rows L2
section
open PySem PySem.AutoSeq1
theorem list_extend_tup (l : Addr) (items : Array Value) (n : Nat) (b : Addr) (items2 : Array Value) (n2 : Nat) (od : Option Addr) (sl : Array (Option Value)) (hs0 : ¬(!items.isEmpty && PySem.Builtin.List.listTooLong (items.size + items2.size)) = true) (hs1 : items.size ≤ sizeLine) (hs2 : items.size + items2.size ≤ sizeLine + 1) :
    Meets (Builtin.«list.extend» ⟨[.ref l, .ref b], []⟩) (fun _ R s => s.heap.get? l = some { cls := .type "list", dict := none, data := .seq items n, slots := #[] } ∧ s.heap.get? b = some { cls := .type "tuple", dict := od, data := .seq items2 n2, slots := sl } ∧ R (.ok (.ret Value.none)) { s with heap := s.heap.update l (Obj.mapSeq fun x => x ++ items2), toks := s.toks }) :=
  .of_wp fun prog w A R s h => by
    obtain ⟨hp, g, d, tk, os⟩ := s; obtain ⟨hl, hb, h⟩ := h; have f1 := idx_int; have f2 := AutoSeq1.sub_tuple_tuple; have f3 := AutoSeq1.sub_list_list; have f4 := AutoSeq1.sub_tuple_list; have f5 := AutoSeq1.sub_list_tuple;
    have hz' : (items ++ items2).size ≤ sizeLine + 1 := by rw [Array.size_append]; exact hs2
    wp_walk using (wpAny_updateSeq hl rfl (hz := hs1) (_hz' := hz')), wpAny_loadPart' hl, wpAny_loadPart' hb; exact ⟨_, rfl, h⟩
end
/-- l.extend(t) -/
def rExtT (K : PySem.W.Frag) : V → List V → Hp → VK → Prop := fun x vs H Q => ∃ l b xs zs, x = .ref l ∧ vs = [.ref b] ∧ H l = some (.lst xs) ∧ SqT K H b zs ∧ xs.length + zs.length ≤ sizeLine ∧ Q .non (upd H l (.lst (xs ++ zs)))
theorem mt_extT {X : Cx} : MtM X "list.extend" (rExtT X.K) := by
  intro pins s σ H x vs v us Q I rx rv h
  obtain ⟨l, b, xs, zs, rfl, rfl, hH, hB, hz, q⟩ := h
  cases rx
  obtain ⟨u, rfl, ru⟩ := rv.one
  cases ru
  obtain ⟨z, its, n, r, hl, e⟩ := I.lstM hH
  obtain ⟨its2, r2, ⟨⟨oc, od, dt, sl⟩, e2, hc, n2, hd⟩, z2⟩ := I.tuple hB
  simp only at hc hd
  subst hc hd
  have hl2 := r2.length
  have hsz : its.toArray.size + its2.toArray.size ≤ sizeLine := by rw [List.size_toArray, List.size_toArray]; omega
  have hlong : ¬ (!its.toArray.isEmpty && Builtin.List.listTooLong (its.toArray.size + its2.toArray.size)) = true := by
    rw [notLongL hsz, Bool.and_false]
    exact Bool.false_ne_true
  refine call_meets F.slot_list_extend ⟨_, e, rfl⟩ F.entry_list_extend (F.args_list_extend_2 _ _)
    (list_extend_tup l its.toArray n b its2.toArray n2 od sl hlong (by rw [List.size_toArray]; omega) (by omega)) ⟨e, e2, ?_⟩
  refine ⟨.non, _, I.lset (its' := its ++ its2) hH e (by simp) (r.append r2) ?_, rfl, q⟩
  rw [List.length_append]
  omega
/-- by a list, by a tuple -/
def extM : W → PN := fun x ws S => match x, ws with
  | .ref a, [.tup ys] => match S[a]? with
    | some (.lst xs) => if xs.length + ys.length ≤ sizeLine then some (.non, S.set a (.lst (xs ++ ys))) else none
    | _ => none
  | .ref a, [y] => match S[a]?, lsW y S with
    | some (.lst xs), some ys => if xs.length + ys.length ≤ sizeLine then some (.non, S.set a (.lst (xs ++ ys))) else none
    | _, _ => none
  | _, _ => none
def rExtM (K : PySem.W.Frag) : V → List V → Hp → VK → Prop := fun x vs H Q => rExtend x vs H Q ∨ rExtT K x vs H Q
theorem mt_extM {X : Cx} : MtR X "list.extend" (rExtM X.K) := by
  intro pins s σ H x xs v us Q I rx rs h
  rcases h with h | h
  · exact mt_extend pins s σ H x xs v us Q I rx rs h
  · exact mt_extT pins s σ H x xs v us Q I rx rs h
section
variable {K : PySem.W.Frag} {mg : Str → Option Value} {H : Hp} {φ : Fi} {S : Store}
theorem snd_extM : SndM K mg extM (rExtM K) := fun x ws S u S' H φ v vs Q s rx r h q => by
  unfold extM at h
  split at h
  · rename_i a ys
    split at h
    · rename_i xs e0
      split at h
      · rename_i hz
        cases h
        obtain ⟨p, us, rfl, t, hp, rr⟩ := vlst s rx e0
        obtain ⟨z, rfl, rz⟩ := one r
        obtain ⟨p', us', rfl, t', rr'⟩ := vtup rz
        obtain ⟨x, s'⟩ := s.write (ob := .lst (xs ++ ys)) (o := .lst (us ++ us')) t fun H' φ' x e => ⟨_, e, (rr.mono x).append (rr'.mono x)⟩
        exact .inr ⟨p, p', us, us', rfl, rfl, hp, t'.sq, by rw [← rr.length, ← rr'.length]; exact hz, q _ _ _ x s' (by simp [VR])⟩
      · cases h
    · cases h
  · rename_i a b _
    split at h
    · rename_i xs ys e0 e1
      split at h
      · rename_i hz
        cases h
        obtain ⟨p, us, rfl, t, hp, rr⟩ := vlst s rx e0
        obtain ⟨z, rfl, rz⟩ := one r
        obtain ⟨p', us', rfl, hp', rr'⟩ := lsW_ok s rz e1
        obtain ⟨x, s'⟩ := s.write (ob := .lst (xs ++ ys)) (o := .lst (us ++ us')) t fun H' φ' x e => ⟨_, e, (rr.mono x).append (rr'.mono x)⟩
        exact .inl ⟨p, p', us, us', rfl, rfl, hp, hp', by rw [← rr.length, ← rr'.length]; exact hz, q _ _ _ x s' (by simp [VR])⟩
      · cases h
    · cases h
  · cases h
end
/-! ### name op= e -/
/-- ints, texts -/
def iaddW : P2 := fun x y S => match x, y with
  | .int i, .int j => some (.int (i + j), S)
  | .str i, .str j => if i.length + j.length ≤ sizeLine then some (.str (i ++ j), S) else none
  | _, _ => none
def rIadd : TIp := fun x y H Q => ipI (fun i j => i + j) x y H Q ∨ ∃ i j, x = .str i ∧ y = .str j ∧ i.length + j.length ≤ sizeLine ∧ Q (.str (i ++ j)) H
theorem ip_iadd {X : Cx} : PIp X .Add rIadd := by
  intro pins s σ H x y v u Q I r1 r2 h
  rcases h with h | h
  · exact ip_add pins s σ H x y v u Q I r1 r2 h
  · exact iop_add_str pins s σ H x y v u Q I r1 r2 h
section
variable {K : PySem.W.Frag} {mg : Str → Option Value}
theorem snd_iadd : Snd2 K mg iaddW (fun v u H Q => rIadd v u H Q) := fun w w' S u S' H φ v v' Q s r r' h q => by
  cases w with
  | int i =>
    cases w' with
    | int j => cases h; cases vint r; cases vint r'; exact .inl ⟨i, j, rfl, rfl, same_end s (by simp [VR]) q⟩
    | _ => cases h
  | str i =>
    cases w' with
    | str j =>
      simp only [iaddW] at h
      split at h
      · rename_i hz
        cases h; cases vstr r; cases vstr r'
        exact .inr ⟨i, j, rfl, rfl, hz, same_end s (by simp [VR]) q⟩
      · cases h
    | _ => cases h
  | _ => cases h
theorem snd_isub : Snd2 K mg subW (fun v u H Q => ipI (fun i j => i - j) v u H Q) := fun w w' S u S' H φ v v' Q s r r' h q => by
  cases w with
  | int i =>
    cases w' with
    | int j => cases h; cases vint r; cases vint r'; exact ⟨i, j, rfl, rfl, same_end s (by simp [VR]) q⟩
    | _ => cases h
  | _ => cases h
end
end Sh

set_option Elab.async false
set_option linter.all false
set_option maxRecDepth 100000
set_option maxHeartbeats 2000000
/-! ShD: globals as values; a def's promise from its body's term; the facts of the head. -/
namespace Sh
open PySem PySem.Spec PyProof.Rows L2

/-! ### globals as values -/
/-- the module's name x is this value -/
def GV (K : PySem.W.Frag) (mg : Str → Option Value) (x : Str) (w : W) : Prop := ∃ u v, mg x = some u ∧ RelV v u ∧ ∀ H φ, VR K mg H φ w v
section
variable {X : Cx} {Wx : WX} {pos : Pos} {x : Str} {w : W}
theorem m_gv (h : GV X.K X.mg x w) (hg : Gl X x) (hd : (x == ("__debug__" : Str)) = false := by decide) : ME X Wx (.Name x pos) (eC w) := by
  obtain ⟨u, v, hm, r, hw⟩ := h
  exact m_gloV hg hm r hw hd
theorem m_ty {n : String} (hg : Gl X x) (hm : X.mg x = none) (hv : bootBuiltins x = some (.type n)) (hn : x ≠ "__name__" := by decide) (hd : (x == ("__debug__" : Str)) = false := by decide) : ME X Wx (.Name x pos) (eC (.ty n)) :=
  m_const (pe_bltn (v := .ty n) hg hm hv rfl hn hd) fun _ _ => by simp [VR]
end

/-! ### a def -/
theorem start_er {K : PySem.W.Frag} {mg : Str → Option Value} {H : Hp} {φ : Fi} {N : List Str} {ws : List W} {vs : List V} (r : VRs K mg H φ ws vs) : ER K mg H φ (startE N.length ws) (L2.start N vs) := by
  have hl := r.length
  refine ⟨by simp [startE, L2.start, hl], fun i w h => ?_⟩
  unfold startE at h
  unfold L2.start
  by_cases hi : i < ws.length
  · rw [List.getElem?_append_left (by simpa using hi), List.getElem?_map] at h
    rw [List.getElem?_append_left (by simpa [← hl] using hi), List.getElem?_map]
    cases e : ws[i]? with
    | none => rw [e] at h; cases h
    | some w' =>
      rw [e] at h
      cases h
      obtain ⟨v, e1, rv⟩ := r.get e
      exact ⟨v, by rw [e1]; rfl, rv⟩
  · rw [List.getElem?_append_right (by simpa using hi)] at h
    rw [List.getElem?_replicate] at h
    split at h <;> cases h
theorem run_readO {K : PySem.W.Frag} {mg : Str → Option Value} {N ps : List Str} {b : SM} {vs : List V} {H : Hp} {Q : VK} {E : XK} (h : spM K mg ps.length (runDefO ps.length N.length b) vs H Q E) :
    rS K mg (fun cls d _ H => E cls d H) b { nx := fun _ H' => Q .non H', rt := Q } (L2.start N vs) H := by
  obtain ⟨ws, S, φ, r, s, l, q⟩ := h
  refine ⟨startE N.length ws, S, φ, start_er r, s, ?_⟩
  unfold runDefO at q
  rw [if_pos l] at q
  cases e : b (startE N.length ws) S with
  | nx e' S' => rw [e] at q; exact fun σ' H' φ' x er sr => q .non H' φ' x sr (by simp [VR])
  | ret w S' => rw [e] at q; exact q
  | exc x e' S' => rw [e] at q; exact fun c d σ' H' φ' x er sr xr => q c d H' φ' x sr xr
  | brk _ _ => rw [e] at q; exact q.elim
  | cnt _ _ => rw [e] at q; exact q.elim
  | bad => rw [e] at q; exact q.elim
theorem cut_read {K : PySem.W.Frag} {mg : Str → Option Value} {Wx : WX} {σ : L2.St} {H H' : Hp} {φ φ' : Fi} {S S1 : Store} {w : W} {v : V} {Q : VK} (s : SR K mg H φ S) (q : PostR K mg Wx (VR K mg) σ H φ Q (cutR S w S1)) (x : Ext H H' φ φ') (s1 : SR K mg H' φ' S1) (r : VR K mg H' φ' w v) : Q v H' := by
  unfold cutR at q
  split at q
  · rename_i w' e1
    split at q
    · rename_i ok
      obtain ⟨x', ec⟩ := x.cut s
      have r' := fzD_ok s1 (n := S.length) 4 w w' v e1 r
      have s' := s1.cut ok
      rw [ec] at r' s'
      exact q v H' φ x' s' r'
    · exact q.elim
  · exact q.elim
theorem cutX_read {K : PySem.W.Frag} {mg : Str → Option Value} {Wx : WX} {σ : L2.St} {H H' : Hp} {φ φ' : Fi} {S S1 : Store} {x : Exn} {cls : Value} {d : Option Addr} {Q : VK} (s : SR K mg H φ S) (q : PostR K mg Wx (VR K mg) σ H φ Q (cutX S x S1)) (y : Ext H H' φ φ') (s1 : SR K mg H' φ' S1) (r : XR K mg H' φ' x cls d) : Wx cls d σ H' := by
  unfold cutX at q
  split at q
  · rename_i ok
    rw [Bool.and_eq_true] at ok
    obtain ⟨y', ec⟩ := y.cut s
    have s' := s1.cut ok.2
    rw [ec] at s'
    refine q cls d H' φ y' s' ?_
    obtain ⟨C, m, e, h⟩ := r
    refine ⟨C, m, e, ?_⟩
    rcases h with h | ⟨dd, us, e0, e1, e2, e3, e4⟩
    · exact .inl h
    · have e5 := e4.low ok.1
      rw [ec] at e5
      exact .inr ⟨dd, us, e0, e1, e2, e3, e5⟩
  · exact q.elim
theorem run_read {K : PySem.W.Frag} {mg : Str → Option Value} {N ps : List Str} {b : SM} {vs : List V} {H : Hp} {Q : VK} {E : XK} (h : spM K mg ps.length (runDef ps.length N.length b) vs H Q E) :
    rS K mg (fun cls d _ H => E cls d H) b { nx := fun _ H' => Q .non H', rt := Q } (L2.start N vs) H := by
  obtain ⟨ws, S, φ, r, s, l, q⟩ := h
  refine ⟨startE N.length ws, S, φ, start_er r, s, ?_⟩
  unfold runDef at q
  rw [if_pos l] at q
  cases e : b (startE N.length ws) S with
  | nx e' S' => rw [e] at q; exact fun σ' H' φ' x er sr => cut_read s q x sr (show VR K mg H' φ' .non .non by simp [VR])
  | ret w S' => rw [e] at q; exact fun v H' φ' x sr rv => cut_read s q x sr rv
  | exc x e' S' => rw [e] at q; exact fun c d σ' H' φ' y er sr xr => cutX_read s q y sr xr
  | brk _ _ => rw [e] at q; exact q.elim
  | cnt _ _ => rw [e] at q; exact q.elim
  | bad => rw [e] at q; exact q.elim
section
variable {P : Program} {w : World} {K : PySem.W.Frag} {mg : Str → Option Value} {base : Heap} {x qual : Str} {params : Arguments} {body : List Stmt} {scope : Scope} {f : Addr} {fd : FuncData} {N ps : List Str} {k : Nat} {b : SM}
/-- the context of a def's body -/
abbrev dX (P : Program) (w : World) (K : PySem.W.Frag) (mg : Str → Option Value) (base : Heap) (N : List Str) (qual : Str) (scope : Scope) (f : Addr) (cd : Value) (A : Around) (outer : List Env) (s : Shared) (H : Hp) (E : XK) : Cx := cxOf (L2.CX P w) P w K mg base N qual scope f cd A outer s H E
/-- its body has this model -/
def Bod (P : Program) (w : World) (K : PySem.W.Frag) (mg : Str → Option Value) (base : Heap) (k : Nat) (N : List Str) (qual : Str) (scope : Scope) (body : List Stmt) (b : SM) : Prop := ∀ (f : Addr) (cd : Value) (A : Around) (outer : List Env) (s : Shared) (H : Hp) (E : XK),
  Room k (dX P w K mg base N qual scope f cd A outer s H E).A → MSs (dX P w K mg base N qual scope f cd A outer s H E) (fun cls d _ H => E cls d H) body b
theorem def_ok (F : FunD K x qual params body scope [] [] f fd) (S : FnScope N ps scope) (hb : Binds K fd ps []) (hB : Bod P w K mg base k N qual scope body b) : DefOk P w K mg base (k + 1) f ps (runDef ps.length N.length b) :=
  ⟨fd, F.ok S (spM_len rfl) (fun cdv A outer s H vs Q E hr h => ⟨_, hB f cdv A outer s H E hr, run_read h⟩), hb, F.kp, ary_run⟩
theorem def_okO (F : FunD K x qual params body scope [] [] f fd) (S : FnScope N ps scope) (hb : Binds K fd ps []) (hB : Bod P w K mg base k N qual scope body b) : DefOk P w K mg base (k + 1) f ps (runDefO ps.length N.length b) :=
  ⟨fd, F.ok S (spM_len rfl) (fun cdv A outer s H vs Q E hr h => ⟨_, hB f cdv A outer s H E hr, run_readO h⟩), hb, F.kp, ary_runO⟩
theorem def_ok0 (hb : Binds K fd ps []) (hk : PySem.W.keepIn K (.ref f) = true) : DefOk P w K mg base 0 f ps fun _ _ => .bad :=
  ⟨fd, ⟨spM_len rfl, fun A outer s H args us vs Q E hr e0 b r ⟨ws, S, φ, _, _, _, q⟩ => q.elim⟩, hb, hk, fun _ _ _ => rfl⟩
end

/-! ### facts of tables -/
section
variable {K : PySem.W.Frag} {mg : Str → Option Value} {w : World}
theorem gv_int {x : Str} {i : Int} (h : ∃ t, mg x = some (.int i t)) : GV K mg x (.int i) := by
  obtain ⟨t, h⟩ := h
  exact ⟨_, .int i, h, ⟨t, rfl⟩, fun _ _ => by simp [VR]⟩
theorem gv_str {x z : Str} (h : ∃ t, mg x = some (.str z t)) : GV K mg x (.str z) := by
  obtain ⟨t, h⟩ := h
  exact ⟨_, .str z, h, ⟨t, rfl⟩, fun _ _ => by simp [VR]⟩
theorem gv_glo {x : Str} {a : Addr} (h : mg x = some (.ref a)) : GV K mg x (.glo x) := ⟨_, .ref a, h, rfl, fun _ _ => by simp only [VR]; exact ⟨a, h, rfl⟩⟩
theorem relAll_vals {vs : List V} {us : List Value} (h : He.relAll vs us = true) : Vals vs us := He.relAll_ok h
/-- a tuple of the module of flat values -/
theorem gv_tup {x : Str} {ds : List He.Dv} {ws : List W} {a : Addr} (hm : mg x = some (.ref a)) (ha : a = He.ga K x) (h : He.tupB K x ds = true) (hw : ∀ H φ, VRs K mg H φ ws (ds.map (He.Dv.v K))) : GV K mg x (.tup ws) := by
  subst ha
  refine ⟨_, .ref (He.ga K x), hm, rfl, fun H φ => ?_⟩
  simp only [VR]
  refine ⟨_, _, rfl, .inr ?_, hw H φ⟩
  have := He.tupB_ok h (fun _ => none)
  rcases this with (h1 | ⟨o, h1⟩) | h1
  · cases h1
  · cases h1
  · exact h1
/-- a dict of the module: its keys, its values -/
theorem gd_ok {x : Str} {ks : List Str} {kvs : List (Str × W)} {a : Addr} (hm : mg x = some (.ref a)) (h : He.dicW K a = some (He.keysIn w.params ks)) (hk : kvs.map (·.1) = ks)
    (hv : ∀ z wv, kvs.lookup z = some wv → ∃ u0 v0, PySem.W.nsIn K a z = some (some u0) ∧ RelV v0 u0 ∧ ∀ H φ, VR K mg H φ wv v0) : ∃ d es n, mg x = some (.ref d) ∧ KDict K w d es n ∧ ∀ z : Str, match kvs.lookup z with
  | some wv => ∃ u0 v0, PySem.W.nsIn K d z = some (some u0) ∧ RelV v0 u0 ∧ ∀ H φ, VR K mg H φ wv v0
  | none => PySem.W.nsIn K d z = some none := by
  obtain ⟨es, n, D⟩ := He.dicW_ok h
  refine ⟨a, es, n, hm, D, fun z => ?_⟩
  cases e : kvs.lookup z with
  | some wv => exact hv z wv e
  | none =>
    show PySem.W.nsIn K a z = some none
    unfold He.dicW at h
    unfold PySem.W.nsIn
    cases q : K.lookup a with
    | none => rw [q] at h; cases h
    | some o =>
      obtain ⟨oc, od, dt, osl⟩ := o
      rw [q] at h
      cases oc with
      | type c =>
        cases od with
        | none =>
          cases dt with
          | dict es' n' =>
            dsimp only at h ⊢
            split at h
            · have h1 := Option.some.inj h
              have hz : z ∉ ks := fun hz => by
                rw [← hk] at hz
                obtain ⟨p, hp, hpz⟩ := List.mem_map.mp hz
                have := List.lookup_eq_none_iff.mp e p hp
                rw [hpz] at this
                simp at this
              clear hv hk D
              have key : ∀ (l : List DictEntry) (ks : List Str), l.map He.keyOf = He.keysIn w.params ks → z ∉ ks → (l.find? (·.key.isStr z)) = none ∧ l.any (·.refKey) = false := by
                intro l
                induction l with
                | nil => intro ks _ _; exact ⟨rfl, rfl⟩
                | cons d l ih =>
                  intro ks hks hz
                  cases ks with
                  | nil => cases hks
                  | cons k ks =>
                    have h2 : He.keyOf d :: l.map He.keyOf = some (k, PyData.keyHash w.params k) :: He.keysIn w.params ks := hks
                    injection h2 with h3 h4
                    obtain ⟨i1, i2⟩ := ih ks h4 fun m => hz (List.mem_cons_of_mem _ m)
                    unfold He.keyOf at h3
                    split at h3
                    · rename_i y t hy
                      have h5 := Option.some.inj h3
                      obtain ⟨h6, _⟩ := Prod.mk.inj h5
                      have hne : y ≠ z := fun e => hz (by rw [← e, h6]; exact List.mem_cons_self)
                      have hs : d.key.isStr z = false := by
                        rw [hy]
                        simp [Value.isStr, hne]
                      have hr : d.refKey = false := by
                        simp [DictEntry.refKey, hy]
                      exact ⟨by rw [List.find?_cons, hs]; exact i1, by rw [List.any_cons, hr, i2]; rfl⟩
                    · cases h3
              obtain ⟨k1, k2⟩ := key _ ks h1 hz
              rw [k1]
              dsimp only
              rw [k2]
              rfl
            · cases h
          | _ => cases h
        | some b => cases dt <;> cases h
      | _ => cases od <;> cases dt <;> cases h
end
end Sh

set_option Elab.async false
set_option linter.all false
set_option maxRecDepth 100000
set_option maxHeartbeats 2000000
/-! ShZ: from the facts of the top to the promises at every depth; the law's end. -/
namespace Sh
open PySem PySem.Spec PyProof.Rows L2

/-- a def as it stands behind the top -/
abbrev UD (K : PySem.W.Frag) (x qual : Str) (st : Stmt) (f : Addr) : Prop := ∃ fd, FunD K x qual (defArgs st) (defBody st) (defScope st) [] [] f fd
/-- its arguments bind -/
def BI (x qual : Str) (st : Stmt) (ps : List Str) : Prop := ∀ (kV doc pm : Value) (an : Option Addr) (cdv ct : Value) (us : List Value), us.length = ps.length → bindArgs (PySem.W.fnOf x qual (defArgs st) (defBody st) (defScope st) .none kV doc pm an cdv ct) ⟨us, []⟩ = pure (ps.zip us)
/-- .. with keywords behind n values -/
def BK (x qual : Str) (st : Stmt) (ps ks : List Str) : Prop := ∀ (kV doc pm : Value) (an : Option Addr) (cdv ct : Value) (us ws : List Value), us.length + ks.length = ps.length → ws.length = ks.length → bindArgs (PySem.W.fnOf x qual (defArgs st) (defBody st) (defScope st) .none kV doc pm an cdv ct) ⟨us, ks.zip ws⟩ = pure (ps.zip (us ++ ws))
def UG (K : PySem.W.Frag) (mg : Str → Option Value) (x : Str) (st : Stmt) : Prop := ∃ f, mg x = some (.ref f) ∧ UD K x x st f
def UM (K : PySem.W.Frag) (mg : Str → Option Value) (c m qual : Str) (st : Stmt) : Prop := ∃ A f, mg c = some (.ref A) ∧ Cls K A ∧ Meth K A m f ∧ UD K m qual st f
def UK (K : PySem.W.Frag) (mg : Str → Option Value) (c qual : Str) (st : Stmt) : Prop := ∃ A f, mg c = some (.ref A) ∧ Mk K A f ∧ UD K "__init__" qual st f
section
variable {P : Program} {w : World} {K : PySem.W.Frag} {mg : Str → Option Value} {base : Heap} {x qual c m : Str} {st : Stmt} {f : Addr} {N ps ks : List Str} {k : Nat} {b : SM}
theorem ud_ok0 (h : UD K x qual st f) (bi : BI x qual st ps) : DefOk P w K mg base 0 f ps fun _ _ => .bad := by
  obtain ⟨fd, F⟩ := h
  exact def_ok0 (F.bindsN bi) F.kp
theorem ud_ok (h : UD K x qual st f) (bi : BI x qual st ps) (S : FnScope N ps (defScope st)) (hB : Bod P w K mg base k N qual (defScope st) (defBody st) b) : DefOk P w K mg base (k + 1) f ps (runDef ps.length N.length b) := by
  obtain ⟨fd, F⟩ := h
  exact def_ok F S (F.bindsN bi) hB
theorem ug_ok0 (h : UG K mg x st) (bi : BI x x st ps) : GlOk P w K mg base 0 x ps fun _ _ => .bad := let ⟨f, m, u⟩ := h; ⟨f, m, ud_ok0 u bi⟩
theorem ug_ok (h : UG K mg x st) (bi : BI x x st ps) (S : FnScope N ps (defScope st)) (hB : Bod P w K mg base k N x (defScope st) (defBody st) b) : GlOk P w K mg base (k + 1) x ps (runDef ps.length N.length b) := let ⟨f, m, u⟩ := h; ⟨f, m, ud_ok u bi S hB⟩
theorem ug_okO (h : UG K mg x st) (bi : BI x x st ps) (S : FnScope N ps (defScope st)) (hB : Bod P w K mg base k N x (defScope st) (defBody st) b) : GlOk P w K mg base (k + 1) x ps (runDefO ps.length N.length b) := let ⟨f, m, u⟩ := h; ⟨f, m, by obtain ⟨fd, F⟩ := u; exact def_okO F S (F.bindsN bi) hB⟩
theorem um_ok0 (h : UM K mg c m qual st) (bi : BI m qual st ps) : MtOk P w K mg base 0 c m ps fun _ _ => .bad := let ⟨A, f, h1, h2, h3, u⟩ := h; ⟨A, f, h1, h2, h3, ud_ok0 u bi⟩
theorem um_ok (h : UM K mg c m qual st) (bi : BI m qual st ps) (S : FnScope N ps (defScope st)) (hB : Bod P w K mg base k N qual (defScope st) (defBody st) b) : MtOk P w K mg base (k + 1) c m ps (runDef ps.length N.length b) := let ⟨A, f, h1, h2, h3, u⟩ := h; ⟨A, f, h1, h2, h3, ud_ok u bi S hB⟩
theorem uk_ok0 (h : UK K mg c qual st) (bi : BI "__init__" qual st ps) : MkOk P w K mg base 0 c ps fun _ _ => .bad := let ⟨A, f, h1, h2, u⟩ := h; ⟨A, f, h1, h2, ud_ok0 u bi⟩
theorem uk_ok (h : UK K mg c qual st) (bi : BI "__init__" qual st ps) (S : FnScope N ps (defScope st)) (hB : Bod P w K mg base k N qual (defScope st) (defBody st) b) : MkOk P w K mg base (k + 1) c ps (runDef ps.length N.length b) := let ⟨A, f, h1, h2, u⟩ := h; ⟨A, f, h1, h2, ud_ok u bi S hB⟩
theorem bk_to {fd : FuncData} (F : FunD K x qual (defArgs st) (defBody st) (defScope st) [] [] f fd) (bk : BK x qual st ps ks) (s : Shared) (us ws : List Value) (h1 : us.length + ws.length = ps.length) (h2 : ws.length = ks.length) : BindsTo s fd ⟨us, ks.zip ws⟩ (ps.zip (us ++ ws)) := by
  obtain ⟨oc, od, dV, kV, doc, pm, an, cdv, ct, osl, rfl, lk, hcd, hD, hK⟩ := F.ex
  rcases hD with ⟨_, rfl⟩ | ⟨e, _⟩
  · exact .of_eq (bk kV doc pm an cdv ct us ws (by rw [← h2]; exact h1) h2)
  · exact absurd rfl e
theorem uw_ok0 (h : UG K mg x st) (bk : BK x x st ps ks) : KwOk P w K mg base 0 x ps ks fun _ _ => .bad := by
  obtain ⟨f, m, fd, F⟩ := h
  exact ⟨f, fd, m, ⟨spM_len rfl, fun A outer s H args us vs Q E hr e0 b r ⟨ws, S, φ, _, _, _, q⟩ => q.elim⟩, F.kp, fun _ _ _ => rfl, bk_to F bk⟩
theorem uw_ok (h : UG K mg x st) (bk : BK x x st ps ks) (S : FnScope N ps (defScope st)) (hB : Bod P w K mg base k N x (defScope st) (defBody st) b) : KwOk P w K mg base (k + 1) x ps ks (runDef ps.length N.length b) := by
  obtain ⟨f, m, fd, F⟩ := h
  exact ⟨f, fd, m, F.ok S (spM_len rfl) (fun cdv A outer s H vs Q E hr h => ⟨_, hB f cdv A outer s H E hr, run_read h⟩), F.kp, ary_run, bk_to F bk⟩
/-- the law's promise -/
theorem sp_law {C : Cal} {H : Hp} {a : Addr} {ns : List Int} (hO : Only H) (hS : SqL K H a (ns.map V.int)) {S' : Store} (h : C [.scr ns] [] = .ok (.bl true) S') : spM K mg 1 C [.ref a] H (fun v _ => v = .bl true) fun _ _ _ => False := by
  have hF : SqF K H a (ns.map V.int) := by
    rcases hS with (h | ⟨o, h⟩) | h
    · rcases hO a with z | ⟨o, xs, z⟩
      · rw [z] at h; cases h
      · rw [z] at h; cases h
    · exact .inl ⟨o, h⟩
    · exact .inr h
  refine ⟨[.scr ns], [], ⟨[], []⟩, .one (by simp only [VR]; exact ⟨a, rfl, hF⟩), ⟨rfl, .nil, fun i ob p e => (by cases e), fun D hD => (by cases hD)⟩, rfl, ?_⟩
  rw [h]
  exact fun v H' φ' _ _ r => r
theorem cx_none {P : Program} {w : World} (H : Hp) (s : Shared) (e : Value) (s' : Shared) : L2.CX P w [] H s (fun _ _ _ => False) e s' → False := fun ⟨_, _, _, _, _, _, _, _, _, _, _, _, z⟩ => z
/-- at any world -/
def CXA (P : Program) : CXT := fun outer H s E u s' => ∃ w, L2.CX P w outer H s E u s'
theorem fnok_cx {fd : FuncData} {sp : Sp} (F : FnOk P w K mg base (L2.CX P w) k f fd ps sp) : FnOk P w K mg base (CXA P) k f fd ps sp := ⟨F.len, fun A outer s H args us vs Q E hr e0 b r h => codeAny_mono (F.run A outer s H args us vs Q E hr e0 b r h) fun r s' hq => by
  cases r with
  | error e => exact ⟨w, hq⟩
  | ok fl => cases fl <;> exact hq⟩
/-- the end: the law's def at depth k, its plain law -/
theorem law_end {l : PySem.W.OpenLaw} {q : Program} {loose : List Str} {XP : (Str → Option Value) → Heap → Prop} {YP : World → Heap → Prop} {d : DefRec} {n : Nat} {st : Stmt} {N : List Str} {b : SM}
    (hn : l.most = some n) (hn2 : n ≤ sizeLine) (hdf : d.params.defaults = []) (hr : Room (k + 1) callerA) (hd : d.name = x) (bi : BI x x st ["script"]) (S : FnScope N ["script"] (defScope st))
    (F : ∀ (w : World) (mg : Str → Option Value) (h : Heap), YP w h → h.Ns mainGlobals mg → ∃ K : PySem.W.Frag, K.In h ∧ UG K mg x st ∧ ∀ base : Heap, Bod l.prog w K mg base k N x (defScope st) (defBody st) b)
    (hlaw : ∀ ns : List Int, ns.length ≤ n → ∃ S', runDef 1 N.length b [.scr ns] [] = .ok (.bl true) S') : PySem.W.WalkO q loose XP YP l.row.toRowW d [] (fun f vs => PySem.call f vs) := by
  refine L2.walk_ofE (l := l) (n := n) (k := k + 1) (x := "script") (CX := CXA l.prog) hn hn2 hdf hr (fun w mg fa h Y G hmg => ?_) (fun H s e s' ⟨w, z⟩ => cx_none H s e s' z)
  obtain ⟨K, KX, ⟨f, hm, fd, FD⟩, hB⟩ := F w mg h Y G
  rw [hd, hm] at hmg
  cases hmg
  refine ⟨K, fd, spM K mg 1 (runDef 1 N.length b), KX, fun s u => ?_, fun H a ns hl hO hS => ?_, fun base _ _ => ?_⟩
  · exact FunD.bindsA (ps := ["script"]) FD bi s [u] rfl
  · obtain ⟨S', e⟩ := hlaw ns hl
    exact sp_law hO hS e
  · exact fnok_cx (FD.ok S (spM_len (ps := ["script"]) rfl) (fun cdv A outer s H vs Q E hr h => ⟨_, hB base _ cdv A outer s H E hr, run_read (ps := ["script"]) h⟩))
end
/-! ### flat values -/
def flW : W → He.Dv → Bool
  | .non, .non => true
  | .bl b, .bl c => b == c
  | .int i, .int j => decide (i = j)
  | .str x, .str y => decide (x = y)
  | _, _ => false
def flsW : List W → List He.Dv → Bool
  | [], [] => true
  | w :: ws, d :: ds => flW w d && flsW ws ds
  | _, _ => false
def flkW : List (Str × W) → List (Str × He.Dv) → Bool
  | [], [] => true
  | w :: ws, d :: ds => (decide (w.1 = d.1) && flW w.2 d.2) && flkW ws ds
  | _, _ => false
section
variable {K : PySem.W.Frag} {mg : Str → Option Value} {H : Hp} {φ : Fi}
theorem flW_ok {w : W} {d : He.Dv} (h : flW w d = true) : VR K mg H φ w (d.v K) := by
  cases w with
  | non => cases d <;> first | (cases h; done) | exact rfl
  | bl b =>
    cases d with
    | bl c => have e : b = c := eq_of_beq h; subst e; exact rfl
    | _ => cases h
  | int b =>
    cases d with
    | int c => have e : b = c := of_decide_eq_true h; subst e; exact rfl
    | _ => cases h
  | str b =>
    cases d with
    | str c => have e : b = c := of_decide_eq_true h; subst e; exact rfl
    | _ => cases h
  | _ => cases d <;> cases h
theorem flsW_ok : ∀ {ws : List W} {ds : List He.Dv}, flsW ws ds = true → VRs K mg H φ ws (ds.map (He.Dv.v K))
  | [], [], _ => .nil
  | [], _ :: _, h => by cases h
  | _ :: _, [], h => by cases h
  | w :: ws, d :: ds, h => by
    simp only [flsW, Bool.and_eq_true] at h
    exact .cons (flW_ok h.1) (flsW_ok h.2)
theorem vals_look {a : Addr} {z : Str} {wv : W} : ∀ {kvs : List (Str × W)} {ts : List (Str × He.Dv)}, He.valsB K a ts = true → flkW kvs ts = true → kvs.lookup z = some wv → ∃ u0 v0, PySem.W.nsIn K a z = some (some u0) ∧ RelV v0 u0 ∧ ∀ H φ, VR K mg H φ wv v0
  | [], ts, _, _, hz => by cases hz
  | _ :: _, [], _, h, _ => by cases h
  | w :: ws, d :: ds, hv, h, hz => by
    simp only [flkW, Bool.and_eq_true, decide_eq_true_eq] at h
    obtain ⟨⟨h1, h2⟩, h3⟩ := h
    obtain ⟨k, v⟩ := w
    simp only [List.lookup_cons] at hz
    cases e : z == k with
    | true =>
      rw [e] at hz
      cases hz
      have ek : z = k := eq_of_beq e
      obtain ⟨u, e1, r⟩ := He.valsB_ok hv (q := d) List.mem_cons_self
      refine ⟨u, d.2.v K, ?_, r, fun H φ => flW_ok h2⟩
      rw [ek, show k = d.1 from h1]
      exact e1
    | false =>
      rw [e] at hz
      refine vals_look (ts := ds) ?_ h3 hz
      unfold He.valsB at hv ⊢
      rw [List.all_cons, Bool.and_eq_true] at hv
      exact hv.2
end
end Sh

set_option Elab.async false
set_option linter.all false
set_option maxRecDepth 100000
set_option maxHeartbeats 2000000
/-! ShQ: repr of what is nested, where no repr is under way. -/
namespace Sh
open PySem PySem.Spec PyProof.Rows L2
def keyD : Key → PyData
  | .inl i => .int i
  | .inr x => .str x
mutual
/-- a value as plain data -/
def pyW : W → Option PyData
  | .non => some .none
  | .bl b => some (.bool b)
  | .int i => some (.int i)
  | .str x => some (.str x)
  | .tup ws => (pyWs ws).map .tuple
  | .lst ws => (pyWs ws).map .list
  | .dic ks ws => (pyWs ws).map fun ds => .dict ((ks.map keyD).zip ds)
  | .ref _ => none
  | .ty _ => none
  | .glo _ => none
  | .scr _ => none
def pyWs : List W → Option (List PyData)
  | [] => some []
  | w :: ws => match pyW w, pyWs ws with
    | some d, some ds => some (d :: ds)
    | _, _ => none
end
def reprOk (d : PyData) : Bool := d.showable && (decide (d.depth ≤ 60) && decide (d.shown.length ≤ sizeLine))
def reprN : PN := fun ws S => match ws with
  | [w] => match pyW w with
    | some d => if reprOk d = true then some (.str d.shown, S) else none
    | none => none
  | _ => none
mutual
inductive RdV (K : PySem.W.Frag) (H : Hp) : V → PyData → Prop
  | non : RdV K H .non .none
  | bl (b : Bool) : RdV K H (.bl b) (.bool b)
  | int (i : Int) : RdV K H (.int i) (.int i)
  | str (x : Str) : RdV K H (.str x) (.str x)
  | tup {p : Addr} {vs : List V} {ds : List PyData} : SqT K H p vs → RdVs K H vs ds → RdV K H (.ref p) (.tuple ds)
  | lst {p : Addr} {vs : List V} {ds : List PyData} : SqL K H p vs → RdVs K H vs ds → RdV K H (.ref p) (.list ds)
  | dic {p : Addr} {us : List (Key × V)} {ds : List PyData} : H p = some (.dK us) → RdVs K H (us.map (·.2)) ds → RdV K H (.ref p) (.dict ((us.map fun q => keyD q.1).zip ds))
inductive RdVs (K : PySem.W.Frag) (H : Hp) : List V → List PyData → Prop
  | nil : RdVs K H [] []
  | cons {v : V} {vs : List V} {d : PyData} {ds : List PyData} : RdV K H v d → RdVs K H vs ds → RdVs K H (v :: vs) (d :: ds)
end
section
variable {K : PySem.W.Frag} {mg : Str → Option Value} {H : Hp} {φ : Fi}
mutual
theorem rdv_of : ∀ {w : W} {v : V} {d : PyData}, VR K mg H φ w v → pyW w = some d → RdV K H v d
  | .non, v, d, r, e => by cases e; cases (show v = .non from r); exact .non
  | .bl b, v, d, r, e => by cases e; cases (show v = .bl b from r); exact .bl b
  | .int i, v, d, r, e => by cases e; cases (show v = .int i from r); exact .int i
  | .str x, v, d, r, e => by cases e; cases (show v = .str x from r); exact .str x
  | .tup ws, v, d, r, e => by
    obtain ⟨p, vs, rfl, t, rr⟩ := (show ∃ p vs, v = .ref p ∧ SqU K H p vs ∧ VRs K mg H φ ws vs from r)
    simp only [pyW] at e
    cases h : pyWs ws with
    | none => rw [h] at e; cases e
    | some ds =>
      rw [h] at e
      cases e
      refine .tup ?_ (rdvs_of rr h)
      rcases t with t | t
      · exact .inl (.inl t)
      · exact .inr t
  | .lst ws, v, d, r, e => by
    obtain ⟨p, vs, rfl, t, rr⟩ := (show ∃ p vs, v = .ref p ∧ SqW H φ p vs ∧ VRs K mg H φ ws vs from r)
    simp only [pyW] at e
    cases h : pyWs ws with
    | none => rw [h] at e; cases e
    | some ds =>
      rw [h] at e
      cases e
      exact .lst (.inl (.inl t.2)) (rdvs_of rr h)
  | .dic ks ws, v, d, r, e => by
    obtain ⟨p, us, rfl, _, t, hk, rr⟩ := (show ∃ p us, v = .ref p ∧ Out φ p ∧ H p = some (.dK us) ∧ us.map (·.1) = ks ∧ VRs K mg H φ ws (us.map (·.2)) from r)
    simp only [pyW] at e
    cases h : pyWs ws with
    | none => rw [h] at e; cases e
    | some ds =>
      rw [h] at e
      cases e
      have e2 : ks.map keyD = us.map fun q => keyD q.1 := by rw [← hk, List.map_map]; rfl
      show RdV K H _ (.dict ((ks.map keyD).zip ds))
      rw [e2]
      exact .dic t (rdvs_of rr h)
  | .ref _, _, _, _, e => by cases e
  | .ty _, _, _, _, e => by cases e
  | .glo _, _, _, _, e => by cases e
  | .scr _, _, _, _, e => by cases e
theorem rdvs_of : ∀ {ws : List W} {vs : List V} {ds : List PyData}, VRs K mg H φ ws vs → pyWs ws = some ds → RdVs K H vs ds
  | [], vs, ds, r, e => by
    cases e
    cases (show vs = [] from r)
    exact .nil
  | w :: ws, vs, ds, r, e => by
    obtain ⟨v, r2, rfl, h1, h2⟩ := (show ∃ v r, vs = v :: r ∧ VR K mg H φ w v ∧ VRs K mg H φ ws r from r)
    simp only [pyWs] at e
    cases h : pyW w with
    | none => rw [h] at e; cases e
    | some d =>
      cases h' : pyWs ws with
      | none => rw [h, h'] at e; cases e
      | some ds' =>
        rw [h, h'] at e
        cases e
        exact .cons (rdv_of h1 h) (rdvs_of h2 h')
end
end
def rReprM (K : PySem.W.Frag) : List V → Hp → VK → Prop := fun xs H Q => ∃ v d, xs = [v] ∧ RdV K H v d ∧ reprOk d = true ∧ Q (.str d.shown) H
theorem snd_repr {K : PySem.W.Frag} {mg : Str → Option Value} : SndN K mg reprN (rReprM K) := fun ws S u S' H φ vs Q s r h q => by
  unfold reprN at h
  split at h
  · rename_i w
    obtain ⟨v, rfl, r1⟩ := one r
    split at h
    · rename_i d hd
      split at h
      · rename_i hok
        cases h
        exact ⟨v, d, rfl, rdv_of r1 hd, hok, same_end s (by simp [VR]) q⟩
      · cases h
    · cases h
  · cases h
section
variable {X : Cx} {pins : List (Addr × Obj)} {σ : L2.St} {H : Hp} {s : Shared}
theorem kvs_reads {P : Program} {w : World} {h : Heap} : ∀ {us : List (Key × V)} {vs : List (Key × Value)} {es : List DictEntry}, KV us vs → Pairs (mixKind P w) es vs → ReadsAll h (es.map (·.key)) (us.map fun q => keyD q.1) [] ∧ Vals (us.map (·.2)) (es.map (·.val))
  | [], _, es, kv, p => by
    cases kv
    cases p
    exact ⟨.nil, .nil⟩
  | u :: us, _, es, kv, p => by
    cases kv with
    | cons k1 k2 =>
      cases p with
      | cons p1 p2 p3 =>
        rename_i e0 es0
        obtain ⟨i1, i2⟩ := kvs_reads (h := h) k2 p3
        obtain ⟨e1, r1⟩ := k1
        refine ⟨?_, .cons (show L2.RelV u.2 (DictEntry.val _) from p2.symm ▸ r1) i2⟩
        have key : ∃ as : List Addr, as = [] ∧ Reads h e0.key (keyD u.1) as := by
          rcases keyIs_shape p1 with ⟨i, t, e2, e3⟩ | ⟨x, t, e2, e3⟩
          · rw [e1, e2]
            refine ⟨[], rfl, ?_⟩
            rw [e3]; exact .int i t
          · rw [e1, e2]
            refine ⟨[], rfl, ?_⟩
            rw [e3]; exact .str x t
        obtain ⟨as, rfl, rk⟩ := key
        exact .cons rk i1
theorem rdvs_len {K : PySem.W.Frag} {H : Hp} : ∀ {vs : List V} {ds : List PyData}, RdVs K H vs ds → ds.length = vs.length
  | _, _, .nil => rfl
  | _, _, .cons _ h => by simp [rdvs_len h]
mutual
theorem reads_of (I : Inv X pins σ H s) (hm : SysD X.base) : ∀ {v : V} {u : Value} {d : PyData}, RdV X.K H v d → RelV v u → ∃ as, Reads s.heap u d as ∧ sysModules ∉ as
  | _, u, _, .non, r => by cases r; exact ⟨[], .none, by simp⟩
  | _, u, _, .bl b, r => by cases r; exact ⟨[], .bool b, by simp⟩
  | _, u, _, .int i, r => by obtain ⟨t, rfl⟩ := r; exact ⟨[], .int i t, by simp⟩
  | _, u, _, .str x, r => by obtain ⟨t, rfl⟩ := r; exact ⟨[], .str x t, by simp⟩
  | _, u, _, .tup (p := p) t rr, r => by
    cases r
    obtain ⟨its, rv, ⟨o, ho, hcl, n, hd⟩, _⟩ := I.tuple t
    obtain ⟨as, h1, h2⟩ := readss_of I hm rr rv
    exact ⟨as, .tuple ho hcl hd (by simpa using h1), h2⟩
  | _, u, _, .lst (p := p) t rr, r => by
    cases r
    obtain ⟨its, rv, ⟨o, n, ho, hcl, _, hd⟩, _⟩ := I.list t
    obtain ⟨as, h1, h2⟩ := readss_of I hm rr rv
    refine ⟨p :: as, .list ho hcl hd (by simpa using h1), ?_⟩
    simp only [List.mem_cons, not_or]
    refine ⟨fun e => ?_, h2⟩
    obtain ⟨o', e1, e2⟩ := hm
    have e3 := I.bk _ _ e1
    rw [e] at e3
    rw [ho] at e3
    cases e3
    rw [hcl] at e2
    exact absurd e2 (by decide)
  | _, u, _, .dic (p := p) (us := us) (ds := ds) t rr, r => by
    cases r
    obtain ⟨_, hsm, vs, kv, o, es, ep, ho, hx, hd, _, hp, _⟩ := dk_rd I.hok (Rd.of t)
    obtain ⟨k1, k2⟩ := kvs_reads (h := s.heap) kv hp
    obtain ⟨bs, b1, b2⟩ := readss_of I hm rr k2
    have hl := rdvs_len rr
    rw [List.length_map] at hl
    have z1 : (((us.map fun q => keyD q.1).zip ds).map (·.1)) = us.map fun q => keyD q.1 := List.map_fst_zip (by rw [List.length_map]; omega)
    have z2 : (((us.map fun q => keyD q.1).zip ds).map (·.2)) = ds := List.map_snd_zip (by rw [List.length_map]; omega)
    refine ⟨p :: [] ++ bs, .dict ho hx.1 hd (by rw [z1]; exact k1) (by rw [z2]; exact b1), ?_⟩
    simp only [List.cons_append, List.nil_append, List.mem_cons, not_or]
    exact ⟨fun e => by rw [e] at hsm; simp at hsm, b2⟩
theorem readss_of (I : Inv X pins σ H s) (hm : SysD X.base) : ∀ {vs : List V} {us : List Value} {ds : List PyData}, RdVs X.K H vs ds → Vals vs us → ∃ as, ReadsAll s.heap us ds as ∧ sysModules ∉ as
  | _, us, _, .nil, r => by cases r; exact ⟨[], .nil, by simp⟩
  | _, us, _, .cons h1 h2, r => by
    cases r with
    | cons r1 r2 =>
      obtain ⟨as, a1, a2⟩ := reads_of I hm h1 r1
      obtain ⟨bs, b1, b2⟩ := readss_of I hm h2 r2
      exact ⟨as ++ bs, .cons a1 b1, fun h => (List.mem_append.mp h).elim a2 b2⟩
end
theorem call_repr (hg : X.A.guards = some []) (hu : X.A.units + 70 < cLine) (hm : SysD X.base) : CallR X (.builtin "repr") (rReprM X.K) := by
  intro pins s σ H xs us Q I r h
  obtain ⟨v, d, rfl, hr, hok, q⟩ := h
  obtain ⟨u, rfl, ru⟩ := vals1 r
  obtain ⟨as, R, hn⟩ := reads_of I hm hr ru
  simp only [reprOk, Bool.and_eq_true, decide_eq_true_eq] at hok
  obtain ⟨h1, h2, h3⟩ := hok
  cases hr with
  | non => cases ru; exact PySem.P.repr_of_none ⟨.str _, H, I.tok _, ⟨_, rfl⟩, q⟩
  | bl b => cases ru; exact PySem.P.repr_of_bool ⟨.str _, H, I.tok _, ⟨_, rfl⟩, q⟩
  | int i => obtain ⟨t, rfl⟩ := ru; exact PySem.P.repr_of_int (by simpa [PyData.showable] using h1) ⟨.str _, H, I.tok _, ⟨_, rfl⟩, q⟩
  | str x => obtain ⟨t, rfl⟩ := ru; exact PySem.P.repr_of_str ⟨.str _, H, I.tok _, ⟨_, rfl⟩, q⟩ h3
  | tup t rr => cases ru; exact repr_of_reads' R h1 (fun _ => hn) hg (by omega) (fun b o e => e) (fun h' u tk hk => ⟨.str _, H, I.kept hk, ⟨u, rfl⟩, q⟩) h3
  | lst t rr => cases ru; exact repr_of_reads' R h1 (fun _ => hn) hg (by omega) (fun b o e => e) (fun h' u tk hk => ⟨.str _, H, I.kept hk, ⟨u, rfl⟩, q⟩) h3
  | dic t rr => cases ru; exact repr_of_reads' R h1 (fun _ => hn) hg (by omega) (fun b o e => e) (fun h' u tk hk => ⟨.str _, H, I.kept hk, ⟨u, rfl⟩, q⟩) h3
end
end Sh

set_option Elab.async false
set_option linter.all false
set_option maxRecDepth 100000
set_option maxHeartbeats 2000000
/-! ShY: the law's own def, called from where nothing is under way (the rest of ShZ's law_end, for laws that say repr). -/
namespace Sh
open PySem PySem.Spec PyProof.Rows L2
/-- nothing of the script's heap is tracked but the script -/
structure Bare (P : Program) (w : World) (K : PySem.W.Frag) (a : Addr) (ns : List Int) (h : Heap) (H : Hp) : Prop where
  only : Only H
  sq : SqL K H a (ns.map V.int)
  ok : HOk P w H h
  at_ : ∀ b, H b ≠ none → b = a
  out : H a ≠ none → K.lookup a = none
theorem bare_ex {P : Program} {w : World} {K : PySem.W.Frag} {a : Addr} {vs : List Value} {ns : List Int} {h : Heap} (hin : K.In h) (ha : h.get? a = some { cls := .type "list", data := .seq vs.toArray }) (hi : IntsAre vs ns) (hl : ns.length ≤ sizeLine) :
    ∃ H, Bare P w K a ns h H := by
  have hv := vals_ints hi
  have hz : ns.length = vs.length := by have := hi.length; omega
  cases e : K.lookup a with
  | some o =>
    have eo := hin a o e
    rw [ha] at eo
    cases eo
    exact ⟨fun _ => none, fun _ => .inl rfl, .inr ⟨_, vs.toArray, _, e, rfl, rfl, rfl, by rw [List.size_toArray, ← hz]; exact hl, by simpa using hv⟩, (fun _ _ z => by cases z), (fun _ z => absurd rfl z), fun z => absurd rfl z⟩
  | none =>
    refine ⟨fun b => if b = a then some (.frz { cls := .type "list", data := .seq vs.toArray } (.lst (ns.map V.int))) else none, fun b => ?_, .inl (.inr ⟨_, if_pos rfl⟩), fun b u z => ?_, fun b z => ?_, fun _ => e⟩
    · by_cases q : b = a
      · exact .inr ⟨_, _, if_pos q⟩
      · exact .inl (if_neg q)
    · by_cases q : b = a
      · rw [if_pos q] at z
        cases z
        rw [q]
        exact ⟨ha, by rw [List.length_map]; exact hl, vs, _, hv, ha⟩
      · rw [if_neg q] at z
        cases z
    · by_cases q : b = a
      · exact q
      · exact absurd (if_neg q) z
section
variable {P : Program} {w : World} {K : PySem.W.Frag} {mg mb : Str → Option Value} {fa a : Addr} {k : Nat} {s1 : Shared} {vs : List Value} {ns : List Int} {H : Hp}
theorem bare_none (B : Bare P w K a ns s1.heap H) (ha : s1.heap.get? a = some { cls := .type "list", data := .seq vs.toArray }) {b : Addr} {o : Obj} {es : Array DictEntry} {ep : Nat} (e : s1.heap.get? b = some o) (d : o.data = .dict es ep) : H b = none := by
  cases q : H b with
  | none => rfl
  | some u =>
    have e2 : b = a := B.at_ b (by rw [q]; exact Option.some_ne_none _)
    rw [e2, ha] at e
    cases e
    cases (show Data.seq vs.toArray _ = Data.dict es ep from d)
theorem bare_ns (B : Bare P w K a ns s1.heap H) (ha : s1.heap.get? a = some { cls := .type "list", data := .seq vs.toArray }) {b : Addr} {m : Str → Option Value} : s1.heap.Ns b m → (hidT s1.heap H).Ns b m := by
  rintro ⟨o, es, ep, e, d, r⟩
  exact ⟨o, es, ep, hidT_get e (bare_none B ha e d), d, r⟩
theorem bare_in (B : Bare P w K a ns s1.heap H) (hin : K.In s1.heap) : K.In (hidT s1.heap H) := by
  intro b o e
  refine hidT_get (hin b o e) ?_
  cases q : H b with
  | none => rfl
  | some u =>
    have hn : H b ≠ none := by rw [q]; exact Option.some_ne_none _
    have e2 := B.at_ b hn
    subst e2
    rw [B.out hn] at e
    cases e
theorem bare_env (B : Bare P w K a ns s1.heap H) (ha : s1.heap.get? a = some { cls := .type "list", data := .seq vs.toArray }) (hin : K.In s1.heap) (hns : s1.heap.Ns mainGlobals mg) (hb : s1.heap.Ns builtinsNs mb) (hbb : ∀ x : Str, x ≠ "__name__" → mb x = bootBuiltins x) (hlim : s1.heap.NoLimit) (hg : s1.gens = #[]) :
    Env0 P w K mg (hidT s1.heap H) callerA [] s1 H where
  frames := rfl
  mod := ⟨bare_in B hin, bare_ns B ha hns, ⟨mb, bare_ns B ha hb, hbb⟩, by obtain ⟨mc, n1, n2⟩ := hlim; exact ⟨mc, bare_ns B ha n1, n2⟩⟩
  bs := fun _ _ e => of_hidT e
  bsz := Nat.le_of_eq (hidT_size _ _)
  funs := trivial
  frf := fun b hb => by cases (show b ∈ ([] : List Addr) from hb)
  hok := B.ok
  bare := .of_eq hg
/-- what the call leaves -/
theorem bare_end (B : Bare P w K a ns s1.heap H) {s' : Shared} {u : Value} (h : CE [] P w H s1 (fun v _ => v = .bl true) u s') : u = .bool true ∧ OldK s1.heap s'.heap ∧ s'.os = s1.os ∧ AllBare s'.gens := by
  obtain ⟨v, H', hos, hba, un, hok', r, q⟩ := h
  have q2 : v = .bl true := q
  subst q2
  refine ⟨r, OldK.of_keep fun b o e => ?_, hos, hba⟩
  cases q : H b with
  | none => exact un.keep b o e q (fun z => by cases (show b ∈ ([] : List Addr) from z)) (by simp)
  | some x =>
    rcases B.only b with z | ⟨ob, xs, z⟩
    · rw [q] at z
      cases z
    · obtain ⟨e1, _⟩ := B.ok b _ z
      obtain ⟨e2, _⟩ := hok' b _ (un.frzs b ob _ z)
      rw [e] at e1
      cases e1
      exact e2
/-- a def's promise, from this place alone -/
def BodC (P : Program) (w : World) (K : PySem.W.Frag) (mg : Str → Option Value) (base : Heap) (N : List Str) (qual : Str) (scope : Scope) (body : List Stmt) (b : SM) : Prop := ∀ (f : Addr) (cd : Value) (s : Shared) (H : Hp) (E : XK),
  MSs (dX P w K mg base N qual scope f cd callerA [] s H E) (fun cls d _ H => E cls d H) body b
theorem def_run {x qual : Str} {params : Arguments} {body : List Stmt} {scope : Scope} {N ps : List Str} {base : Heap} {b : SM} {f : Addr} {fd : FuncData} {us : List Value} {xs : List V} {Q : VK} {args : Args}
    (F : FunD K x qual params body scope [] [] f fd) (S : FnScope N ps scope) (hr : Room (k + 1) callerA) (e0 : Env0 P w K mg base callerA [] s1 H) (hb : BindsTo s1 fd args (ps.zip us)) (r : Vals xs us) (hB : BodC P w K mg base N qual scope body b)
    (h : spM K mg ps.length (runDef ps.length N.length b) xs H Q fun _ _ _ => False) :
    codeAny (model P w) callerA (.call (.ref f) args) (CR (L2.CX P w) [] P w H s1 Q fun _ _ _ => False) s1 := by
  obtain ⟨oc, od, dV, kV, doc, pm, an, cdv, ct, osl, rfl, lk, hcd, _, _⟩ := F.ex
  have hlen := spM_len (ps := ps) rfl _ _ _ _ h
  have hin : K.In s1.heap := e0.mod.kin.keeps fun c o e => (e0.bs c o e).1
  have hlim : s1.heap.NoLimit := e0.mod.nolimit.keeps fun c o e => (e0.bs c o e).1
  have hkd : ∀ y ∈ ps.zip us, scope.names.lookup y.1 = some .local ∨ (scope.names.lookup y.1 = some .cell ∧ ((cellsFrom (s1.heap.objs.size + 1) scope.names []).lookup y.1).isSome = true) := by
    rintro ⟨n, v⟩ hy
    rcases S.par n (List.of_mem_zip hy).1 with q | q
    · exact .inl q
    · exact .inr ⟨q, PySem.W.cellsFrom_some _ _ _ (.inl q)⟩
  refine codeAny_call_function hr.depth (hin _ _ lk) rfl S.co S.gen rfl (PySem.W.codeRec_of hin hcd) (hb _ _ _ _ ?_)
  refine wpAny_newFunctionEnv_cells S.kind hkd ?_
  rintro env rfl s2 x2
  refine ⟨hlim.keeps x2.toInCall.keep, codeAny_func ?_⟩
  have hm := hB f cdv s1 H (fun _ _ _ => False)
  have J : Inv (dX P w K mg base N qual scope f cdv callerA [] s1 H fun _ _ _ => False) [] (L2.start N xs) H s2 := inv_start S hr.hd e0 hlen r x2
  refine wpAny_mono (hm.run [] s2 (L2.start N xs) H _ J (run_read h)) (fun fl s' hs => ?_) fun e s' hs => hs
  · cases fl with
    | ret u =>
      obtain ⟨v, τ, H2, J2, rv, q⟩ := hs
      exact ⟨v, H2, J2.os, J2.bare, J2.base, J2.hok, rv, q⟩
    | next =>
      obtain ⟨τ, H2, J2, q⟩ := hs
      exact ⟨.non, H2, J2.os, J2.bare, J2.base, J2.hok, rfl, q⟩
    | brk => obtain ⟨_, _, _, q⟩ := hs; exact q.elim
    | cont => obtain ⟨_, _, _, q⟩ := hs; exact q.elim
/-- the end, for a law whose own def says repr: the same as law_end, with the def's body asked at callerA alone -/
theorem law_endC {l : PySem.W.OpenLaw} {q : Program} {loose : List Str} {XP : (Str → Option Value) → Heap → Prop} {YP : World → Heap → Prop} {d : DefRec} {n k : Nat} {x : Str} {st : Stmt} {N : List Str} {b : SM}
    (hn : l.most = some n) (hn2 : n ≤ sizeLine) (hdf : d.params.defaults = []) (hr : Room (k + 1) callerA) (hd : d.name = x) (bi : BI x x st ["script"]) (S : FnScope N ["script"] (defScope st))
    (F : ∀ (w : World) (mg : Str → Option Value) (h : Heap), YP w h → h.Ns mainGlobals mg → SysD h ∧ ∃ K : PySem.W.Frag, K.In h ∧ UG K mg x st ∧ ∀ base : Heap, SysD base → BodC l.prog w K mg base N x (defScope st) (defBody st) b)
    (hlaw : ∀ ns : List Int, ns.length ≤ n → ∃ S', runDef 1 N.length b [.scr ns] [] = .ok (.bl true) S') : PySem.W.WalkO q loose XP YP l.row.toRowW d [] (fun f vs => PySem.call f vs) := by
  refine Att.attach_call hn hdf fun w s₀ s1 mg mb fa o pm cd doc a vs ns G Y ho hdd hcd hmg hobj hints hlen hg => ?_
  obtain ⟨hsys, K, KX, ⟨f, hm, fd, FD⟩, hB⟩ := F w mg _ Y G.T.g
  rw [hd, hm] at hmg
  cases hmg
  obtain ⟨H, B⟩ := bare_ex (P := l.prog) (w := w) (ns := ns) KX hobj hints (Nat.le_trans hlen hn2)
  have e0 := bare_env (P := l.prog) (w := w) B hobj KX G.T.g G.T.b G.T.builtins G.T.nolimit hg
  have hbase : SysD (hidT s1.heap H) := by
    obtain ⟨o, e1, e2⟩ := hsys
    refine ⟨o, hidT_get e1 ?_, e2⟩
    cases q : H sysModules with
    | none => rfl
    | some u =>
      have e3 := B.at_ sysModules (by rw [q]; exact Option.some_ne_none _)
      rw [e3, hobj] at e1
      cases e1
      have e4 : Value.type "list" = Value.type "dict" := e2
      injection e4 with e5
      exact absurd e5 (by decide)
  obtain ⟨S', e⟩ := hlaw ns hlen
  have hsp : spM K mg 1 (runDef 1 N.length b) [.ref a] H (fun v _ => v = .bl true) fun _ _ _ => False := sp_law B.only B.sq e
  refine codeAny_mono (def_run (ps := ["script"]) FD S hr e0 (FunD.bindsA (ps := ["script"]) FD bi s1 [.ref a] rfl) (show Vals [V.ref a] [Value.ref a] from .cons rfl .nil) (hB _ hbase) hsp) fun r s' h => ?_
  cases r with
  | error e => exact (cx_none (P := l.prog) (w := w) H s1 e s' h).elim
  | ok fl =>
    cases fl with
    | ret u =>
      obtain ⟨rfl, h2⟩ := bare_end B h
      exact ⟨rfl, h2⟩
    | next => exact (show False from h).elim
    | brk => exact (show False from h).elim
    | cont => exact (show False from h).elim
end
end Sh

set_option Elab.async false
set_option linter.all false
set_option maxRecDepth 100000
set_option maxHeartbeats 2000000
/-! ShT: raise of a class without own __init__; try with clauses, named or not. -/
namespace Sh
open PySem PySem.Spec PyProof.Rows L2

/-! ### raise C() -/
def sRaise0 (c : Str) : SM := fun e S => .exc ⟨c, []⟩ e S
structure RaC (K : PySem.W.Frag) (C : Addr) : Prop where
  ex : PySem.W.excIn K C He.veBase "ValueError.__new__" = true
  kp : PySem.W.keepIn K (.ref C) = true
  sb : PySem.W.subIn K (.ref C) (.type "BaseException") = some true
  ty : PySem.W.typeIn K (.ref C) = some (.type "type")
def RaOk (K : PySem.W.Frag) (mg : Str → Option Value) (c : Str) : Prop := ∃ C, mg c = some (.ref C) ∧ RaC K C
section
variable {X : Cx} {Wx : WX} {c : Str} {p pos pos' : Pos}
theorem pmk_none {C : Addr} (R : RaC X.K C) (m : X.mg c = some (.ref C)) (hg : Gl X c) (hdb : (c == ("__debug__" : Str)) = false := by decide) : PMk X (.Call (.Name c p) [] [] pos) (fun _ H Q => Q (.ref C) none H) := fun pins s σ H Q I h => by
  refine wpAny_Call_Name_kw (ld_glob I hg m (PySem.W.callWith_K0 I.kIn R.kp ?_) hdb)
  obtain ⟨bm, N, nm, qn, bs, hdct, sn, sub, ab, col, dd, k0, k1, k2, k3, k5, mN, hC, hN, hni, T⟩ := exc_obj I.kIn R.ex
  show wpAny _ _ (call (.ref C) []) _ _ _
  exact wpAny_call_exc_subT PySem.F.excBase_ValueError T hC hN hni (fun h' e hm => mk_of I hm (raises_own R.sb R.ty) h (I.hok.gone hm.new)) (Nat.zero_le _)
theorem ms_raise0 (R : RaOk X.K X.mg c) (hc : X.calm = true) (tk : Takes X Wx) (hg : Gl X c) (hdb : (c == ("__debug__" : Str)) = false := by decide) : MS X Wx (.Raise (some (.Call (.Name c p) [] [] pos)) none pos') (sRaise0 c) := by
  obtain ⟨C, m, R⟩ := R
  exact leS (ps_raise hc tk (pmk_none R m hg hdb)) fun D σ H ⟨e, S, φ, er, sr, q⟩ => q (.ref C) none σ H φ .refl er sr ⟨C, m, rfl, .inl ⟨rfl, rfl⟩⟩
end

/-! ### the clauses of a try, some with a name -/
abbrev Hd := Value × Option Nat × (Addr → Value → Option Addr → TS)
/-- the ends of a suite whose name goes -/
def goneD (i : Nat) (D : Ends) : Ends := ⟨fun σ H => D.nx (σ.set i none) H, D.rt, fun σ H => D.bk (σ.set i none) H, fun σ H => D.ct (σ.set i none) H⟩
/-- what one clause wishes, a the exception -/
def hdW (o : Option Nat) (ts : TS) (D : Ends) (a : Addr) : L2.St → Hp → Prop := fun σ H => match o with
  | none => ts D σ H
  | some i => ts (goneD i D) (σ.set i (some (.ref a))) H
def wHds (K : PySem.W.Frag) (Wout : WX) (D : Ends) : List Hd → WX
  | [] => Wout
  | p :: r => fun cls d σ H => ∃ b, PySem.W.exmOne K cls p.1 = some b ∧ (b = true → ∀ a, H a = none → hdW p.2.1 (p.2.2 a cls d) D a σ H) ∧ (b = false → wHds K Wout D r cls d σ H)
/-- a suite, of any exception -/
abbrev SuOk (X : Cx) (su : List Stmt) (ts : Addr → Value → Option Addr → TS) : Prop := ∀ (a : Addr) (oe : Obj) (cls : Value) (d : Option Addr) (pn : List (Addr × Obj)), Zc cls d oe → (∃ vs, oe.data = .fields vs) → PSs (X.suite a ((a, oe) :: pn)) su (ts a cls d)
inductive Hds (X : Cx) : List ExceptHandler → List Hd → Prop
  | nil : Hds X [] []
  | plain {x : Str} {c : Value} {ts : Addr → Value → Option Addr → TS} {b₀ : Stmt} {su : List Stmt} {np pp : Pos} {hs : List ExceptHandler} {l : List Hd} (hc : Names X x c) (h : SuOk X (b₀ :: su) ts) (r : Hds X hs l) :
    Hds X (.ExceptHandler (some (.Name x np)) none (b₀ :: su) pp :: hs) ((c, none, ts) :: l)
  | as {x n : Str} {i : Nat} {c : Value} {ts : Addr → Value → Option Addr → TS} {b₀ : Stmt} {su : List Stmt} {np pp : Pos} {hs : List ExceptHandler} {l : List Hd} (hc : Names X x c) (hN : X.N.Nodup) (hi : X.N[i]? = some n) (hl : X.env.kindOf n = some .local) (h : SuOk X (b₀ :: su) ts) (r : Hds X hs l) :
    Hds X (.ExceptHandler (some (.Name x np)) (some n) (b₀ :: su) pp :: hs) ((c, some i, ts) :: l)

/-- the clause's class is read where the exception is held -/
theorem names_ok {X : Cx} {pins : List (Addr × Obj)} {σ : L2.St} {H : Hp} {s : Shared} {x : Str} {c : Value} {np : Pos} (I : Inv X pins σ H s) (hc : Names X x c) {Q E : Value → Shared → Prop} (q : Q c s) :
    wpAny (model X.prog X.w) X.A (eval (.Name x np) X.env) Q E s := by
  obtain ⟨hg, hd, hm | ⟨hm, hv, hn⟩⟩ := hc
  · exact ld_glob I hg hm q hd
  · exact ld_blt I hg hm hv q hn hd

/-- the exception a of the body, on the ground, at this frame -/
structure Gnd (X : Cx) (pins : List (Addr × Obj)) (σ : L2.St) (H : Hp) (a : Addr) (cls : Value) (d : Option Addr) (B : Heap) (sI s : Shared) : Prop where
  inv : Inv X pins σ H sI
  nb : ∀ b o, sI.heap.get? b = some o → b ∉ frs X.stack → B.get? b = some o
  na : H a = none
  os : s.os = sI.os
  ag : AllBare s.gens
  up : sI.heap.UpToSlots s.heap
  fl : HandSPX.FlyingZ B (X.env :: X.outer) a (Zc cls d) s.heap
theorem Gnd.off {h B : Heap} {a : Addr} {l : List Env} {o : Obj} {vs : Array Value} (ff : h.FunFrames B l) (e : h.get? a = some o) (dd : o.data = .fields vs) : a ∉ frs l := fun hm => by
  obtain ⟨_, o', e', hn⟩ := ff.mem hm
  cases e.symm.trans e'
  exact hn _ dd
section
variable {X : Cx} {pins : List (Addr × Obj)} {σ : L2.St} {H : Hp} {a : Addr} {cls : Value} {d : Option Addr} {B : Heap} {sI s : Shared}
theorem Gnd.back (G : Gnd X pins σ H a cls d B sI s) : Inv X pins σ H s := G.inv.landed G.nb G.fl.1 G.up G.os G.ag
/-- the state as the suite's context has it -/
theorem Gnd.held (G : Gnd X pins σ H a cls d B sI s) (hf : X.env.frame = some X.env.locals) :
    ∃ oe, s.heap.get? a = some oe ∧ Zc cls d oe ∧ (∃ vs, oe.data = .fields vs) ∧ Inv (X.suite a ((a, oe) :: (X.pn ++ pins))) [] σ H s := by
  obtain ⟨oe, vs, he, hz, hd⟩ := G.fl.there
  have out := Gnd.off G.fl.2.2.1 he hd
  refine ⟨oe, he, hz, ⟨vs, hd⟩, G.back.suite he hd G.na (fun z => out ?_) fun z => out ?_⟩
  · exact List.mem_filterMap.mpr ⟨_, List.mem_cons_self, by rw [hf, z]⟩
  · obtain ⟨e, h1, h2⟩ := List.mem_filterMap.mp z
    exact List.mem_filterMap.mpr ⟨e, List.mem_cons_of_mem _ h1, h2⟩
/-- nobody takes it -/
theorem Gnd.pass {Wout : WX} {Q : Flow → Shared → Prop} (G : Gnd X pins σ H a cls d B sI s) (hs : X.stack = X.env :: X.outer) (hf : X.env.frame = some X.env.locals) (tk : Takes X Wout) (w : Wout cls d σ H) :
    wpAny (model X.prog X.w) X.A (handleBy (.ref a) X.env []) Q X.xe s := by
  refine wpAny_handleBy_nil ?_
  obtain ⟨_, _, _, oe, vs, T, _, _, he, _, hd, h1, _⟩ := id G.fl
  have fin : wpAny (model X.prog X.w) X.A (setFlight (.ref a) X.env.frame) (fun _ s4 => wpAny (model X.prog X.w) X.A (throw (.ref a) : Sem Flow) Q X.xe s4) X.xe s := by
    rw [hf]
    exact HandSPX.setFlight_upZ G.fl fun h4 hh4 up4 => wpAny_throw (tk _ _ ⟨a, B, sI, pins, σ, H, cls, d, rfl, G.inv, G.nb, G.up.trans up4, .inr (.inr (by rw [hs]; exact hh4)), G.na, G.os, G.ag, w⟩)
  unfold PySem.passOn
  refine wpAny_bind (wpAny_field he hd h1 ?_)
  rw [if_neg (by simp)]
  first | exact wpAny_bind (wpAny_pure (wpAny_bind fin)) | exact wpAny_bind fin
/-- the clauses, one by one -/
theorem Gnd.hand {Wout : WX} {D : Ends} (hs : X.stack = X.env :: X.outer) (hf : X.env.frame = some X.env.locals) (tk : Takes X Wout) (G : Gnd X pins σ H a cls d B sI s) : ∀ {hds : List ExceptHandler} {l : List Hd}, Hds X hds l → wHds X.K Wout D l cls d σ H →
    wpAny (model X.prog X.w) X.A (handleBy (.ref a) X.env hds) (SP X pins D) X.xe s := by
  have ok := G.inv.ok
  obtain ⟨oe, he, hz, hd, S⟩ := G.held hf
  have LT : PySem.W.Looks (model X.prog X.w) s.heap (typeOf (.ref a)) cls := fun A Q E s' k q => wpAny_typeOf_ref (k _ _ he) (by rw [hz.1]; exact q)
  -- it is held anew: the suite's own state
  have again : ∀ {Q : Unit → Shared → Prop} {A : Around} {E : Value → Shared → Prop}, (∀ s', Gnd X pins σ H a cls d B sI s' → Q () s') → wpAny (model X.prog X.w) A (setFlight (.ref a) none) Q E s := fun q =>
    HandSPX.lands_againZ G.fl fun h4 fl4 up4 => q _ ⟨G.inv, G.nb, G.na, G.os, G.ag, G.up.trans up4, fl4⟩
  intro hds l hk
  induction hk with
  | nil => exact fun w => G.pass hs hf tk w
  | plain hc h r ih =>
    intro ⟨b, e, yes, no⟩
    refine wpAny_handleBy_cons (codeAny_handlers_test (names_ok S hc ((PySem.W.exm_one (M := model X.prog X.w) S.kIn LT e).here ?_))) (by intro q; cases q)
    cases b with
    | false => exact ih (no rfl)
    | true =>
      refine codeAny_handlers_suite (again fun s4 G4 => ?_)
      obtain ⟨oe4, he4, hz4, hd4, S4⟩ := G4.held hf
      refine wpAny_mono ((h a oe4 cls d _ hz4 hd4).run [] _ _ H _ S4 (yes rfl a G.na)) (fun f s6 z => ?_) fun _ _ z => z.elim
      cases f with
      | ret u => obtain ⟨v, σ6, H6, S6, r6, q6⟩ := z; exact ⟨v, σ6, H6, S6.unsuite ok, r6, q6⟩
      | next => obtain ⟨σ6, H6, S6, q6⟩ := z; exact ⟨σ6, H6, S6.unsuite ok, q6⟩
      | brk => obtain ⟨σ6, H6, S6, q6⟩ := z; exact ⟨σ6, H6, S6.unsuite ok, q6⟩
      | cont => obtain ⟨σ6, H6, S6, q6⟩ := z; exact ⟨σ6, H6, S6.unsuite ok, q6⟩
  | as hc hN hi hl h r ih =>
    intro ⟨b, e, yes, no⟩
    refine wpAny_handleBy_cons (codeAny_handlers_test (names_ok S hc ((PySem.W.exm_one (M := model X.prog X.w) S.kIn LT e).here ?_))) (by intro q; cases q)
    cases b with
    | false => exact ih (no rfl)
    | true =>
      refine codeAny_handlers_suite_as (again fun s4 G4 => ?_)
      obtain ⟨oe4, he4, hz4, hd4, S4⟩ := G4.held hf
      refine store_ok (X := X.suite a ((a, oe4) :: (X.pn ++ pins))) (v := .ref a) S4 hN hi (.inl hl) rfl (fun s5 S5 => ?_) (.inr hl)
      refine wpAny_mono ((h a oe4 cls d _ hz4 hd4).run [] s5 _ H _ S5 (yes rfl a G.na)) (fun f s6 z => ?_) fun _ _ z => z.elim
      cases f with
      | ret u => obtain ⟨v, σ6, H6, S6, r6, q6⟩ := z; exact gone_ok (S6.unsuite ok) hN hi hl fun s7 J => ⟨v, _, H6, J, r6, q6⟩
      | next => obtain ⟨σ6, H6, S6, q6⟩ := z; exact gone_ok (S6.unsuite ok) hN hi hl fun s7 J => ⟨_, H6, J, q6⟩
      | brk => obtain ⟨σ6, H6, S6, q6⟩ := z; exact gone_ok (S6.unsuite ok) hN hi hl fun s7 J => ⟨_, H6, J, q6⟩
      | cont => obtain ⟨σ6, H6, S6, q6⟩ := z; exact gone_ok (S6.unsuite ok) hN hi hl fun s7 J => ⟨_, H6, J, q6⟩
end
/-- try: body, then clauses -/
theorem ps_hds {X : Cx} {body : List Stmt} {h₀ : ExceptHandler} {hds : List ExceptHandler} {l : List Hd} {pos : Pos} {tb : WX → TS} {Wout : WX} (hs : X.stack = X.env :: X.outer) (hf : X.env.frame = some X.env.locals) (tk : Takes X Wout)
    (hb : ∀ (W : WX) (pn : List (Addr × Obj)) (xe : Value → Shared → Prop), Takes (X.tr pn xe) W → PassesOwn (model X.prog X.w) X.A X.env xe → PSs (X.tr pn xe) body (tb W)) (hh : Hds X (h₀ :: hds) l) :
    PS X (.Try body (h₀ :: hds) [] [] pos) (fun D σ H => tb (wHds X.K Wout D l) D σ H) := by
  refine ⟨fun pins s σ H D I h => wpAny_Try_except ?_⟩
  have ok := I.ok
  refine wpAny_mono ((hb _ (X.pn ++ pins) _ (fun u s' xx => ?_) PassesOwn.looking).run [] s σ H D (I.toTry _) h) (fun f s1 z => ?_) fun e s1 he => he
  · obtain ⟨a, B, sI, pins', σ', H', cls, d, rfl, J', nb, up, sky, na, os, ag, w⟩ := xx
    rw [show (X.tr (X.pn ++ pins) _).stack = X.env :: X.outer from hs] at sky
    exact Sky.land Zc.steady (by rw [ok.frames, hs]) hf sky fun h3 fl3 up3 => Gnd.hand (s := { s' with heap := h3 }) hs hf tk ⟨J'.ofTry ok, nb, na, os, ag, up.trans up3, fl3⟩ hh w
  · cases f with
    | ret u => obtain ⟨v, σ', H', J, r, q⟩ := z; exact ⟨v, σ', H', J.ofTry ok, r, q⟩
    | next => obtain ⟨σ', H', J, q⟩ := z; exact wpAny_execs_nil ⟨σ', H', J.ofTry ok, q⟩
    | brk => obtain ⟨σ', H', J, q⟩ := z; exact ⟨σ', H', J.ofTry ok, q⟩
    | cont => obtain ⟨σ', H', J, q⟩ := z; exact ⟨σ', H', J.ofTry ok, q⟩

/-! ### the model -/
/-- an exception that leaves a suite is not known -/
def noX : RS → RS
  | .exc _ _ _ => .bad
  | r => r
def goneS (i : Nat) : RS → RS
  | .nx e S => .nx (e.set i none) S
  | .brk e S => .brk (e.set i none) S
  | .cnt e S => .cnt (e.set i none) S
  | .ret w S => .ret w S
  | _ => .bad
/-- a clause: its class, its name's slot, its suite -/
abbrev HM := Str × Option Nat × (Exn → SM)
def handM (sub : Str → Str → Bool) : List HM → Exn → En → Store → RS
  | [], x, e, S => .exc x e S
  | p :: r, x, e, S => if sub x.cls p.1 = true then (match p.2.1 with
    | none => noX (p.2.2 x e S)
    | some i => if i < e.length then goneS i (p.2.2 x (e.set i none) S) else .bad) else handM sub r x e S
/-- xs: the classes that are known -/
def sTry (xs : List Str) (sub : Str → Str → Bool) (b : SM) (l : List HM) : SM := fun e S => match b e S with
  | .exc x e1 S1 => if x.cls ∈ xs then handM sub l x e1 S1 else .bad
  | r => r
def clV (mg : Str → Option Value) (c : Str) : Value := (mg c).getD .none
def ExOk (K : PySem.W.Frag) (mg : Str → Option Value) (xs cs : List Str) (sub : Str → Str → Bool) : Prop := ∀ x c, x ∈ xs → c ∈ cs → PySem.W.exmOne K (clV mg x) (clV mg c) = some (sub x c)
/-- a suite's reading -/
def rHd (K : PySem.W.Frag) (mg : Str → Option Value) (o : Option Nat) (f : Exn → SM) : Addr → Value → Option Addr → TS := fun a cls d D σ H =>
  ∃ x e S φ, ER K mg H φ e σ ∧ SR K mg H φ S ∧ XR K mg H φ x cls d ∧ (∀ i, o = some i → σ[i]? = some (some (.ref a))) ∧ PostS K mg NoX D H φ (f x e S)
abbrev MHs (X : Cx) (hds : List ExceptHandler) (l : List HM) : Prop := Hds X hds (l.map fun p => (clV X.mg p.1, p.2.1, rHd X.K X.mg p.2.1 p.2.2))
section
variable {X : Cx} {Wx : WX} {c n : Str} {i : Nat} {np pp pos : Pos} {b₀ : Stmt} {su body : List Stmt} {hs : List ExceptHandler} {l : List HM} {M : SM} {f : Exn → SM}
theorem clV_names {C : Addr} (hm : X.mg c = some (.ref C)) (hg : Gl X c) (hdb : (c == ("__debug__" : Str)) = false := by decide) : Names X c (clV X.mg c) := ⟨hg, hdb, .inl (by unfold clV; rw [hm]; rfl)⟩
theorem mh_nil : MHs X [] [] := .nil
theorem mh_plain (hm : ∃ C, X.mg c = some (.ref C)) (hg : Gl X c) (h : ∀ (a : Addr) (q : Addr × Obj) (pn : List (Addr × Obj)), MSs (X.suite a (q :: pn)) NoX (b₀ :: su) M) (r : MHs X hs l) (hdb : (c == ("__debug__" : Str)) = false := by decide) :
    MHs X (.ExceptHandler (some (.Name c np)) none (b₀ :: su) pp :: hs) ((c, none, fun _ => M) :: l) := by
  obtain ⟨C, hm⟩ := hm
  exact .plain (clV_names hm hg hdb) (fun a oe cls d pn _ _ => leSs (h a (a, oe) pn) fun D σ H ⟨x, e, S, φ, er, sr, _, _, q⟩ => ⟨e, S, φ, er, sr, q⟩) r
theorem mh_as (hm : ∃ C, X.mg c = some (.ref C)) (hg : Gl X c) (hN : X.N.Nodup) (hi : X.N[i]? = some n) (hl : X.env.kindOf n = some .local) (h : SuOk X (b₀ :: su) (rHd X.K X.mg (some i) f)) (r : MHs X hs l) (hdb : (c == ("__debug__" : Str)) = false := by decide) :
    MHs X (.ExceptHandler (some (.Name c np)) (some n) (b₀ :: su) pp :: hs) ((c, some i, f) :: l) := by
  obtain ⟨C, hm⟩ := hm
  exact .as (clV_names hm hg hdb) hN hi hl h r
/-- the slot holds what the model does not name -/
theorem ER.hold {K : PySem.W.Frag} {mg : Str → Option Value} {H : Hp} {φ : Fi} {e : En} {σ : L2.St} (h : ER K mg H φ e σ) {i : Nat} {v : V} : ER K mg H φ (e.set i none) (σ.set i (some v)) := by
  refine ⟨by simp [h.len], fun j w q => ?_⟩
  by_cases hj : i = j
  · subst hj
    rw [List.getElem?_set] at q
    split at q
    · split at q <;> cases q
    · exact absurd rfl ‹_›
  · rw [List.getElem?_set_ne hj] at q
    obtain ⟨u, a, b⟩ := h.at_ j w q
    exact ⟨u, by rw [List.getElem?_set_ne hj]; exact a, b⟩
theorem hand_read {K : PySem.W.Frag} {mg : Str → Option Value} {xs cs : List Str} {sub : Str → Str → Bool} (ex : ExOk K mg xs cs sub) {D : Ends} {x : Exn} {e : En} {S : Store} {H : Hp} {φ : Fi} {σ : L2.St} {cls : Value} {d : Option Addr} (hx : x.cls ∈ xs) (er : ER K mg H φ e σ) (sr : SR K mg H φ S) (xr : XR K mg H φ x cls d) :
    ∀ {l : List HM}, (∀ p ∈ l, p.1 ∈ cs) → PostS K mg Wx D H φ (handM sub l x e S) → wHds K Wx D (l.map fun p => (clV mg p.1, p.2.1, rHd K mg p.2.1 p.2.2)) cls d σ H
  | [], _, q => q cls d σ H φ .refl er sr xr
  | p :: r, hc, q => by
    have ec : cls = clV mg x.cls := by
      obtain ⟨C, m, e, _⟩ := xr
      unfold clV
      rw [m, e]; rfl
    refine ⟨sub x.cls p.1, by rw [ec]; exact ex _ _ hx (hc p List.mem_cons_self), fun hb a na => ?_, fun hb => hand_read ex hx er sr xr (fun p hp => hc p (List.mem_cons_of_mem _ hp)) (by rw [handM, if_neg (by rw [hb]; exact Bool.false_ne_true)] at q; exact q)⟩
    rw [handM, if_pos hb] at q
    obtain ⟨c, o, f⟩ := p
    cases o with
    | none =>
      refine ⟨x, e, S, φ, er, sr, xr, (fun i z => by cases z), ?_⟩
      dsimp only at q ⊢
      cases ef : f x e S with
      | exc _ _ _ => rw [ef] at q; exact q.elim
      | bad => rw [ef] at q; exact q.elim
      | nx _ _ => rw [ef] at q; exact q
      | ret _ _ => rw [ef] at q; exact q
      | brk _ _ => rw [ef] at q; exact q
      | cnt _ _ => rw [ef] at q; exact q
    | some i =>
      dsimp only at q
      split at q
      · rename_i hi
        refine ⟨x, e.set i none, S, φ, er.hold, sr, xr, fun j z => by cases z; exact List.getElem?_set_self (by rw [← er.len]; exact hi), ?_⟩
        dsimp only
        cases ef : f x (e.set i none) S with
        | exc _ _ _ => rw [ef] at q; exact q.elim
        | bad => rw [ef] at q; exact q.elim
        | nx _ _ => rw [ef] at q; exact fun σ' H' φ' x' er' sr' => q _ H' φ' x' er'.forget sr'
        | ret _ _ => rw [ef] at q; exact q
        | brk _ _ => rw [ef] at q; exact fun σ' H' φ' x' er' sr' => q _ H' φ' x' er'.forget sr'
        | cnt _ _ => rw [ef] at q; exact fun σ' H' φ' x' er' sr' => q _ H' φ' x' er'.forget sr'
      · exact q.elim
theorem ms_try {h₀ : ExceptHandler} {xs cs cl : List Str} {sub : Str → Str → Bool} (hst : X.stack = X.env :: X.outer) (hf : X.env.frame = some X.env.locals) (tk : Takes X Wx) (ex : ExOk X.K X.mg xs cs sub)
    (hb : ∀ (W : WX) (pn : List (Addr × Obj)) (xe : Value → Shared → Prop), Takes (X.tr pn xe) W → PassesOwn (model X.prog X.w) X.A X.env xe → MSs (X.tr pn xe) W body M) (hh : MHs X (h₀ :: hs) l) (hl : l.map (·.1) = cl) (hc : ∀ c ∈ cl, c ∈ cs) :
    MS X Wx (.Try body (h₀ :: hs) [] [] pos) (sTry xs sub M l) := leS (ps_hds (tb := fun W => rS X.K X.mg W M) hst hf tk hb hh) fun D σ H ⟨e, S, φ, er, sr, q⟩ => ⟨e, S, φ, er, sr, by
  unfold sTry at q
  cases em : M e S with
  | exc x e1 S1 =>
    rw [em] at q
    dsimp only at q
    split at q
    · rename_i hx
      exact fun cls d σ' H' φ' y er' sr' xr => hand_read ex hx er' sr' xr (fun p hp => hc _ (hl ▸ List.mem_map_of_mem hp)) (PostS.ext y q)
    · exact q.elim
  | bad => rw [em] at q; exact q
  | nx _ _ => rw [em] at q; exact q
  | ret _ _ => rw [em] at q; exact q
  | brk _ _ => rw [em] at q; exact q
  | cnt _ _ => rw [em] at q; exact q⟩
end

/-! ### what a suite says of the exception that it holds -/
abbrev XF := Exn → Option W
def evF : List XF → Exn → Option (List W)
  | [], _ => some []
  | f :: fs, x => match f x, evF fs x with
    | some w, some ws => some (w :: ws)
    | _, _ => none
def rXI (K : PySem.W.Frag) (mg : Str → Option Value) (i : Nat) (a : Addr) (cls : Value) (d : Option Addr) (f : XF) : TE := fun σ H Q => ∃ x φ w, XR K mg H φ x cls d ∧ σ[i]? = some (some (.ref a)) ∧ f x = some w ∧ ∀ v, VR K mg H φ w v → Q v H
def rXIs (K : PySem.W.Frag) (mg : Str → Option Value) (i : Nat) (a : Addr) (cls : Value) (d : Option Addr) (fs : List XF) : TA := fun σ H Q => ∃ x φ ws, XR K mg H φ x cls d ∧ σ[i]? = some (some (.ref a)) ∧ evF fs x = some ws ∧ ∀ vs, VRs K mg H φ ws vs → Q vs H
/-- an item, its value by the exception alone -/
abbrev XI (X : Cx) (i : Nat) (f : XF) (e : Expr) : Prop := ∀ (a : Addr) (oe : Obj) (cls : Value) (d : Option Addr) (pn : List (Addr × Obj)), Zc cls d oe → (∃ vs, oe.data = .fields vs) → PE (X.suite a ((a, oe) :: pn)) e (rXI X.K X.mg i a cls d f)
abbrev XIs (X : Cx) (i : Nat) (fs : List XF) (es : List Expr) : Prop := ∀ (a : Addr) (oe : Obj) (cls : Value) (d : Option Addr) (pn : List (Addr × Obj)), Zc cls d oe → (∃ vs, oe.data = .fields vs) → PA (X.suite a ((a, oe) :: pn)) es (rXIs X.K X.mg i a cls d fs)
def fC (w : W) : XF := fun _ => some w
def fAnd (f g : XF) : XF := fun x => match f x with
  | some (.bl true) => g x
  | some (.bl false) => some (.bl false)
  | _ => none
def fNot (f : XF) : XF := fun x => match f x with
  | some (.bl b) => some (.bl !b)
  | _ => none
/-- isinstance(e, c): t tells it of the class -/
def fIs (t : Str → Option Bool) : XF := fun x => if x.fs.isEmpty = true then (t x.cls).map W.bl else none
section
variable {X : Cx} {i j : Nat} {f g : XF} {e b : Expr} {es rest : List Expr} {pos p p2 : Pos}
theorem xi_str {x : Str} {k : Nat} : XI X i (fC (.str x)) (.Constant (.str x) k pos) := fun a oe cls d pn _ _ => leE pe_str fun σ H Q ⟨x, φ, w, _, _, e, q⟩ => by cases e; exact q _ rfl
theorem xi_int {x : Int} {k : Nat} : XI X i (fC (.int x)) (.Constant (.int x) k pos) := fun a oe cls d pn _ _ => leE pe_int fun σ H Q ⟨x, φ, w, _, _, e, q⟩ => by cases e; exact q _ rfl
theorem xi_bl {x : Bool} {k : Nat} : XI X i (fC (.bl x)) (.Constant (.bool x) k pos) := fun a oe cls d pn _ _ => leE pe_bl fun σ H Q ⟨x, φ, w, _, _, e, q⟩ => by cases e; exact q _ rfl
theorem xi_non {k : Nat} : XI X i (fC .non) (.Constant .none k pos) := fun a oe cls d pn _ _ => leE pe_non fun σ H Q ⟨x, φ, w, _, _, e, q⟩ => by cases e; exact q _ rfl
theorem xi_one {op : BoolOp} (h : XI X i f e) : XI X i f (.BoolOp op [e] pos) := fun a oe cls d pn hz hd => pe_one (h a oe cls d pn hz hd)
theorem xi_and (h : XI X i f e) (h2 : XI X i g (.BoolOp .And (b :: rest) pos)) : XI X i (fAnd f g) (.BoolOp .And (e :: b :: rest) pos) := fun a oe cls d pn hz hd => leE (pe_and (h a oe cls d pn hz hd) (h2 a oe cls d pn hz hd)) fun σ H Q ⟨x, φ, w, xr, hi, e, q⟩ => by
  unfold fAnd at e
  split at e
  · rename_i e1; exact ⟨x, φ, _, xr, hi, e1, fun v r => ⟨true, r, by rw [if_pos rfl]; exact ⟨x, φ, w, xr, hi, e, q⟩⟩⟩
  · rename_i e1; cases e; exact ⟨x, φ, _, xr, hi, e1, fun v r => ⟨false, r, by rw [if_neg Bool.false_ne_true]; exact q _ rfl⟩⟩
  · cases e
theorem xi_not (h : XI X i f e) : XI X i (fNot f) (.UnaryOp .Not e pos) := fun a oe cls d pn hz hd => leE (pe_not (h a oe cls d pn hz hd)) fun σ H Q ⟨x, φ, w, xr, hi, e, q⟩ => by
  unfold fNot at e
  split at e
  · rename_i b e1; cases e; exact ⟨x, φ, _, xr, hi, e1, fun v r => ⟨b, r, q _ rfl⟩⟩
  · cases e
/-- the classes whose instances isinstance is asked of -/
def IsOk (K : PySem.W.Frag) (mg : Str → Option Value) (cv : Value) (t : Str → Option Bool) : Prop := ∀ x b, t x = some b → ∃ D, mg x = some (.ref D) ∧ ExcC K D ∧ PySem.W.kitOne K (.ref D) cv = some b
theorem xi_is {x : Str} {cv : Value} {c : V} {ce : Expr} {t : Str → Option Bool} (h : IsOk X.K X.mg cv t) (hv : ∀ (a : Addr) (q : Addr × Obj) (pn : List (Addr × Obj)), PE (X.suite a (q :: pn)) (.Name x p) (tVar i)) (hcv : ∀ u, RelV c u → u = cv) (hc : ∀ (a : Addr) (q : Addr × Obj) (pn : List (Addr × Obj)), PE (X.suite a (q :: pn)) ce (fun _ H Q => Q c H))
    (hg : Gl X "isinstance") (hm : X.mg "isinstance" = none)
    (hs1 : starEach [Expr.Name x p, ce] X.env = (false, eval (.Name x p) X.env) :: starEach [ce] X.env := by rfl) (hs2 : starEach [ce] X.env = (false, eval ce X.env) :: starEach [] X.env := by rfl) (hpl : (backTo pos (starEach [ce] X.env)).any (·.1) = false := by rfl) :
    XI X i (fIs t) (.Call (.Name "isinstance" p2) [.Name x p, ce] [] pos) := fun a oe cls d pn hz hd => ⟨fun pins s σ H Q I ⟨y, φ, w, xr, hi, e, q⟩ => by
  unfold fIs at e
  split at e
  · rename_i hf
    simp only [Option.map_eq_some_iff] at e
    obtain ⟨k, e1, e2⟩ := e
    subst e2
    obtain ⟨D, m, XC, kt⟩ := h y.cls k e1
    obtain ⟨C, m', ec, xr'⟩ := xr
    rw [m] at m'; cases m'
    have ed : d = none := by
      rcases xr' with ⟨_, z⟩ | ⟨_, _, z, _⟩
      · exact z
      · exact absurd (List.isEmpty_iff.mp hf) z
    subst ec ed
    exact (pe_callB (call_isE XC hz hd) hg hm boot_isinstance (pa_cons (hv a (a, oe) pn) (pa_cons (hc a (a, oe) pn) pa_nil hs2) hs1) (by decide) (by decide) hs1 hpl).run pins s σ H Q I ⟨_, hi, c, cv, k, rfl, hcv, kt, q _ rfl⟩
  · cases e⟩
/-- .. an own class -/
theorem xi_isO {x y : Str} {t : Str → Option Bool} {yp : Pos} (h : IsOk X.K X.mg (clV X.mg y) t) (hv : ∀ (a : Addr) (q : Addr × Obj) (pn : List (Addr × Obj)), PE (X.suite a (q :: pn)) (.Name x p) (tVar i)) (hu : ∃ u, X.mg y = some (.ref u)) (hgy : Gl X y) (hg : Gl X "isinstance") (hm : X.mg "isinstance" = none)
    (hs1 : starEach [Expr.Name x p, Expr.Name y yp] X.env = (false, eval (.Name x p) X.env) :: starEach [Expr.Name y yp] X.env := by rfl) (hs2 : starEach [Expr.Name y yp] X.env = (false, eval (.Name y yp) X.env) :: starEach [] X.env := by rfl) (hpl : (backTo pos (starEach [Expr.Name y yp] X.env)).any (·.1) = false := by rfl) (hdb : (y == ("__debug__" : Str)) = false := by decide) :
    XI X i (fIs t) (.Call (.Name "isinstance" p2) [.Name x p, .Name y yp] [] pos) := by
  obtain ⟨u, hu⟩ := hu
  have eu : clV X.mg y = .ref u := by unfold clV; rw [hu]; rfl
  exact xi_is (c := .ref u) h hv (fun w e => by rw [eu]; exact e) (fun a q pn => pe_glob (v := .ref u) hgy hu rfl hdb) hg hm hs1 hs2 hpl
/-- .. a built-in class -/
theorem xi_isB {x y : Str} {n : String} {t : Str → Option Bool} {yp : Pos} (h : IsOk X.K X.mg (.type n) t) (hvx : ∀ (a : Addr) (q : Addr × Obj) (pn : List (Addr × Obj)), PE (X.suite a (q :: pn)) (.Name x p) (tVar i)) (hmy : X.mg y = none) (hv : bootBuiltins y = some (.type n)) (hgy : Gl X y) (hg : Gl X "isinstance") (hm : X.mg "isinstance" = none)
    (hs1 : starEach [Expr.Name x p, Expr.Name y yp] X.env = (false, eval (.Name x p) X.env) :: starEach [Expr.Name y yp] X.env := by rfl) (hs2 : starEach [Expr.Name y yp] X.env = (false, eval (.Name y yp) X.env) :: starEach [] X.env := by rfl) (hpl : (backTo pos (starEach [Expr.Name y yp] X.env)).any (·.1) = false := by rfl) (hn : y ≠ "__name__" := by decide) (hdb : (y == ("__debug__" : Str)) = false := by decide) :
    XI X i (fIs t) (.Call (.Name "isinstance" p2) [.Name x p, .Name y yp] [] pos) :=
  xi_is (c := .ty n) h hvx (fun w e => e) (fun a q pn => pe_bltn (v := .ty n) hgy hmy hv rfl hn hdb) hg hm hs1 hs2 hpl
theorem xs_nil : XIs X i [] [] := fun a oe cls d pn _ _ => leA pa_nil fun σ H Q ⟨x, φ, ws, _, _, e, q⟩ => by cases e; exact q _ .nil
theorem xs_cons {fs : List XF} (h : XI X i f e) (r : XIs X i fs es) (hs : starEach (e :: es) X.env = (false, eval e X.env) :: starEach es X.env := by rfl) : XIs X i (f :: fs) (e :: es) := fun a oe cls d pn hz hd => leA (pa_cons (h a oe cls d pn hz hd) (r a oe cls d pn hz hd) hs) fun σ H Q ⟨x, φ, ws, xr, hi, e, q⟩ => by
  unfold evF at e
  split at e
  · rename_i w ws' e1 e2
    cases e
    exact ⟨x, φ, w, xr, hi, e1, fun v rv => ⟨x, φ, ws', xr, hi, e2, fun vs rs => q _ (.cons rv rs)⟩⟩
  · cases e
end
/-- t = (item, ..) -/
def sXT (j : Nat) (fs : List XF) (x : Exn) : SM := fun e S => match evF fs x with
  | some ws => if ws.length ≤ sizeLine then .nx (e.set j (some (.tup ws))) S else .bad
  | none => .bad
/-- t = item -/
def sXV (j : Nat) (f : XF) (x : Exn) : SM := fun e S => match f x with
  | some w => .nx (e.set j (some w)) S
  | none => .bad
section
variable {X : Cx} {i j : Nat} {f : XF} {fs : List XF} {e : Expr} {es : List Expr} {y : Str} {pos p p2 : Pos} {k : Nat}
theorem mx_tup (hN : X.N.Nodup) (hj : X.N[j]? = some y) (hy : Loc X.env.scope y) (h : XIs X i fs es) (hs : swapsWith (.Tuple es k p2) (some (.Name y p)) pos.line X.env = pure false := by rfl) (hf : X.fn y = true ∨ X.env.scope.names.lookup y = some .local := by first | exact .inl rfl | exact .inr rfl | assumption) :
    SuOk X [.Assign [.Name y p] (.Tuple es k p2) pos] (rHd X.K X.mg (some i) (sXT j fs)) := fun a oe cls d pn hz hd => leSs (pss_one (ps_set hN hj hy (pe_tup (h a oe cls d pn hz hd)) hs hf)) fun D σ H ⟨x, e, S, φ, er, sr, xr, hi, q⟩ => by
  unfold sXT at q
  split at q
  · rename_i ws e1
    split at q
    · rename_i hz
      refine ⟨x, φ, ws, xr, hi i rfl, e1, fun vs r => ⟨szv r hz, fun b hb => ?_⟩⟩
      obtain ⟨x', s'⟩ := sr.extra (o := .tup vs) hb
      exact q _ _ φ x' ((er.mono x').set (by simp only [VR]; exact ⟨b, vs, rfl, .inl upd_same, r.mono x'⟩)) s'
    · exact q.elim
  · exact q.elim
theorem mx_val (hN : X.N.Nodup) (hj : X.N[j]? = some y) (hy : Loc X.env.scope y) (h : XI X i f e) (hs : swapsWith e (some (.Name y p)) pos.line X.env = pure false := by rfl) (hf : X.fn y = true ∨ X.env.scope.names.lookup y = some .local := by first | exact .inl rfl | exact .inr rfl | assumption) :
    SuOk X [.Assign [.Name y p] e pos] (rHd X.K X.mg (some i) (sXV j f)) := fun a oe cls d pn hz hd => leSs (pss_one (ps_set hN hj hy (h a oe cls d pn hz hd) hs hf)) fun D σ H ⟨x, e, S, φ, er, sr, xr, hi, q⟩ => by
  unfold sXV at q
  split at q
  · rename_i w e1
    exact ⟨x, φ, w, xr, hi i rfl, e1, fun v r => q _ H φ .refl (er.set r) sr⟩
  · exact q.elim
end

/-! ### from the head's facts -/
section
variable {K : PySem.W.Frag} {mg : Str → Option Value}
theorem ra_ok {c : Str} (m : mg c = some (.ref (He.ga K c))) (h : (He.Fa.exc c).ok K = true) : RaOk K mg c := by
  obtain ⟨h1, h2, h3, h4⟩ := He.exc_ok h
  exact ⟨_, m, h1, h2, h3, h4⟩
theorem exm_cl {x y : Str} {b : Bool} (m1 : mg x = some (.ref (He.ga K x))) (m2 : mg y = some (.ref (He.ga K y))) (h : (He.Fa.exm x y b).ok K = true) : PySem.W.exmOne K (clV mg x) (clV mg y) = some b := by
  unfold clV; rw [m1, m2]; exact He.exm_ok h
abbrev ExL (K : PySem.W.Frag) (mg : Str → Option Value) (L : List (Str × Str × Bool)) : Prop := ∀ p ∈ L, PySem.W.exmOne K (clV mg p.1) (clV mg p.2.1) = some p.2.2
theorem ex_nil : ExL K mg [] := fun _ h => by cases h
theorem ex_cons {x y : Str} {b : Bool} {L : List (Str × Str × Bool)} (h : PySem.W.exmOne K (clV mg x) (clV mg y) = some b) (r : ExL K mg L) : ExL K mg ((x, y, b) :: L) := fun p hp => by
  rcases List.mem_cons.mp hp with rfl | hp
  · exact h
  · exact r p hp
theorem ex_of {L : List (Str × Str × Bool)} {xs cs : List Str} {sub : Str → Str → Bool} (h : ExL K mg L) (t : ∀ x ∈ xs, ∀ c ∈ cs, (x, c, sub x c) ∈ L) : ExOk K mg xs cs sub := fun x c hx hc => h _ (t x hx c hc)
theorem xcB_ok {D : Addr} (h : xcB K D = true) : ExcC K D := by
  unfold xcB at h
  simp only [Bool.and_eq_true, decide_eq_true_eq] at h
  obtain ⟨h1, h2, h3, h4, h5, h6, h7, h8⟩ := h
  exact ⟨h1, h2, h3, h4, h5, h6, h7, h8⟩
theorem is_of {cv : Value} {L : List (Str × Bool)} (hm : ∀ p ∈ L, mg p.1 = some (.ref (He.ga K p.1))) (h : kiB K cv L = true) : IsOk K mg cv fun x => L.lookup x := fun x b e => by
  have key : ∀ L : List (Str × Bool), L.lookup x = some b → (x, b) ∈ L := by
    intro L
    induction L with
    | nil => intro e; cases e
    | cons p L ih =>
      intro e
      obtain ⟨y, c⟩ := p
      rw [List.lookup_cons] at e
      split at e
      · rename_i hy
        cases e
        rw [show x = y from eq_of_beq hy]
        exact List.mem_cons_self
      · exact List.mem_cons_of_mem _ (ih e)
  have hp := key L e
  have z := List.all_eq_true.mp h _ hp
  rw [Bool.and_eq_true, decide_eq_true_eq] at z
  exact ⟨_, hm _ hp, xcB_ok z.1, z.2⟩
end
end Sh

set_option Elab.async false
set_option linter.all false
set_option maxRecDepth 100000
set_option maxHeartbeats 2000000
/-! ShU: == and != of plain data (tuples, lists within one another). -/
namespace Sh
open PySem PySem.Spec PyProof.Rows L2
def eqDW : P2 := fun x y S => match pyW x, pyW y with
  | some d, some e => if (SeqAt.shaped d && SeqAt.shaped e) = true then some (.bl (PyData.eqv d e), S) else none
  | _, _ => none
def neDW : P2 := fun x y S => match pyW x, pyW y with
  | some d, some e => if (SeqAt.shaped d && SeqAt.shaped e) = true then some (.bl (!PyData.eqv d e), S) else none
  | _, _ => none
section
variable {K : PySem.W.Frag} {mg : Str → Option Value} {H : Hp} {φ : Fi}
mutual
theorem dp_of : ∀ {d : PyData} {v : V}, RdV K H v d → d.canLay0 = true → Dp K H v d
  | .none, v, r, h => by cases r; exact .non
  | .bool b, v, r, h => by cases r; exact .bl b
  | .int i, v, r, h => by cases r; exact .int i
  | .str x, v, r, h => by cases r; exact .str x
  | .tuple ds, v, r, h => by
    cases r with
    | tup t rs => exact .tup t (dps_of rs h)
  | .list ds, v, r, h => by
    cases r with
    | lst t rs => exact .lst t (dps_of rs h)
  | .dict ds, v, r, h => by cases h
theorem dps_of : ∀ {ds : List PyData} {vs : List V}, RdVs K H vs ds → PyData.canLayAll0 ds = true → DpAll K H vs ds
  | [], vs, r, h => by cases r; exact .nil
  | d :: ds, vs, r, h => by
    cases r with
    | cons r rs =>
      obtain ⟨h1, h2⟩ := Bool.and_eq_true_iff.mp (show (d.canLay0 && PyData.canLayAll0 ds) = true from h)
      exact .cons (dp_of r h1) (dps_of rs h2)
end
theorem snd_eqD : Snd2 K mg eqDW (rEqD K) := fun w w' S u S' H φ v v' Q s r r' h q => by
  unfold eqDW at h
  split at h
  · rename_i d e e1 e2
    split at h
    · rename_i hz
      cases h
      obtain ⟨h1, h2⟩ := Bool.and_eq_true_iff.mp hz
      exact ⟨d, e, dp_of (rdv_of r e1) (SeqAt.canLay_of_shaped h1), dp_of (rdv_of r' e2) (SeqAt.canLay_of_shaped h2), h1, h2, q _ H φ .refl s rfl⟩
    · cases h
  · cases h
theorem snd_neD : Snd2 K mg neDW (rNeD K) := fun w w' S u S' H φ v v' Q s r r' h q => by
  unfold neDW at h
  split at h
  · rename_i d e e1 e2
    split at h
    · rename_i hz
      cases h
      obtain ⟨h1, h2⟩ := Bool.and_eq_true_iff.mp hz
      exact ⟨d, e, dp_of (rdv_of r e1) (SeqAt.canLay_of_shaped h1), dp_of (rdv_of r' e2) (SeqAt.canLay_of_shaped h2), h1, h2, q _ H φ .refl s rfl⟩
    · cases h
  · cases h
end
end Sh

set_option Elab.async false
set_option linter.all false
set_option maxRecDepth 100000
set_option maxHeartbeats 2000000
/-! the model of the program's defs, printed by mk.py -/
namespace Sh
open PySem L2
inductive Fn where
  | f_is_row | f_is_integer | f_is_name | f_is_character | f_is_written | f_is_word | f_is_plain | f_is_row_of_parts | f_is_within | f_is_expression | f_joined | f_pair | f_written | f_bracketed | f_expression_text | f__law_bag | f__law_mixed | f__law_draw | f__law_words | f__law_letters | f__law_name | f__law_written | f__law_shapes | f__law_leaf | f__law_item | f__law_expression | f__law_is_name | f__law_is_text | f__law_is_item | f__law_is | f__law_parts | f__law_walk | f__law_with | f__law_texts | f__law_text | f__law_odd | f__law_told | f_law
def kv_BETWEEN : List (Str × W) := [(("or" : Str), .str ("|" : Str)), (("and" : Str), .str ("&" : Str)), (("to" : Str), .str ("to" : Str))]
def kv_SHAPES : List (Str × W) := ((("nothing" : Str), .str ("" : Str)) :: (("number" : Str), .str ("n" : Str)) :: (("text" : Str), .str ("t" : Str)) :: (("name" : Str), .str ("x" : Str)) :: (("list" : Str), .str ("l" : Str)) :: (("op" : Str), .str ("oee" : Str)) :: (("test" : Str), .str ("cee" : Str)) :: (("or" : Str), .str ("ee" : Str)) :: (("and" : Str), .str ("ee" : Str)) :: (("first" : Str), .str ("e" : Str)) :: (("no" : Str), .str ("e" : Str)) :: (("if" : Str), .str ("eee" : Str)) :: (("most" : Str), .str ("me" : Str)) :: (("again" : Str), .str ("e" : Str)) :: (("to" : Str), .str ("ee" : Str)) :: (("items" : Str), .str ("e" : Str)) :: (("give" : Str), .str ("xe" : Str)) :: (("lend" : Str), .str ("xe" : Str)) :: (("every" : Str), .str ("ee" : Str)) :: (("while" : Str), .str ("ee" : Str)) :: (("do" : Str), .str ("d" : Str)) :: (("call" : Str), .str ("ea" : Str)) :: (("back" : Str), .str ("e" : Str)) :: (("out" : Str), .str ("e" : Str)) :: (("fall" : Str), .str ("" : Str)) :: (("keep" : Str), .str ("e" : Str)) :: (("ask" : Str), .str ("e" : Str)) :: (("anew" : Str), .str ("e" : Str)) :: (("scan" : Str), .str ("ee" : Str)) :: (("move" : Str), .str ("e" : Str)) :: (("tab" : Str), .str ("e" : Str)) :: (("find" : Str), .str ("e" : Str)) :: (("reach" : Str), .str ("e" : Str)) :: (("many" : Str), .str ("e" : Str)) :: (("match" : Str), .str ("e" : Str)) :: (("here" : Str), .str ("" : Str)) :: (("put" : Str), .str ("ee" : Str)) :: (("take" : Str), .str ("e" : Str)) :: (("size" : Str), .str ("e" : Str)) :: (("at" : Str), .str ("ee" : Str)) :: (("place" : Str), .str ("eee" : Str)) :: (("say" : Str), .str ("e" : Str)) :: [])
def gdT : GD := fun x => if x = ("BETWEEN" : Str) then some kv_BETWEEN else if x = ("SHAPES" : Str) then some kv_SHAPES else none
def cfT : CF := fun c => []
def xsT : List Str := [("NoExpression" : Str)]
def csT : List Str := [("NoExpression" : Str), ("NoText" : Str), ("TriedError" : Str)]
def subT : Str → Str → Bool := fun x c => false || (decide (x = ("NoExpression" : Str)) && decide (c = ("NoExpression" : Str))) || (decide (x = ("NoExpression" : Str)) && decide (c = ("TriedError" : Str)))
@[simp] theorem in_NoExpression : ("NoExpression" : Str) ∈ xsT := by decide +kernel
@[simp] theorem sub_NoExpression_NoExpression : subT ("NoExpression" : Str) ("NoExpression" : Str) = true := by decide +kernel
@[simp] theorem sub_NoExpression_NoText : subT ("NoExpression" : Str) ("NoText" : Str) = false := by decide +kernel
@[simp] theorem sub_NoExpression_TriedError : subT ("NoExpression" : Str) ("TriedError" : Str) = true := by decide +kernel
def itl_TriedError : List (Str × Bool) := [(("NoExpression" : Str), true)]
def it_TriedError : Str → Option Bool := fun x => itl_TriedError.lookup x
@[simp] theorem it_TriedError_NoExpression : it_TriedError ("NoExpression" : Str) = some true := by decide +kernel
def itl_ValueError : List (Str × Bool) := [(("NoExpression" : Str), true)]
def it_ValueError : Str → Option Bool := fun x => itl_ValueError.lookup x
@[simp] theorem it_ValueError_NoExpression : it_ValueError ("NoExpression" : Str) = some true := by decide +kernel
@[simp] theorem lit_0 : ("" : Str) = ⟨#[]⟩ := by decide +kernel
@[simp] theorem lit_1 : (" " : Str) = ⟨#[32]⟩ := by decide +kernel
@[simp] theorem lit_2 : (" & " : Str) = ⟨#[32, 38, 32]⟩ := by decide +kernel
@[simp] theorem lit_3 : (" := " : Str) = ⟨#[32, 58, 61, 32]⟩ := by decide +kernel
@[simp] theorem lit_4 : (" <- " : Str) = ⟨#[32, 60, 45, 32]⟩ := by decide +kernel
@[simp] theorem lit_5 : (" to " : Str) = ⟨#[32, 116, 111, 32]⟩ := by decide +kernel
@[simp] theorem lit_6 : (" | " : Str) = ⟨#[32, 124, 32]⟩ := by decide +kernel
@[simp] theorem lit_7 : (" ~" : Str) = ⟨#[32, 126]⟩ := by decide +kernel
@[simp] theorem lit_8 : ("&" : Str) = ⟨#[38]⟩ := by decide +kernel
@[simp] theorem lit_9 : ("'" : Str) = ⟨#[39]⟩ := by decide +kernel
@[simp] theorem lit_10 : ("(" : Str) = ⟨#[40]⟩ := by decide +kernel
@[simp] theorem lit_11 : (")" : Str) = ⟨#[41]⟩ := by decide +kernel
@[simp] theorem lit_12 : ("*" : Str) = ⟨#[42]⟩ := by decide +kernel
@[simp] theorem lit_13 : ("+" : Str) = ⟨#[43]⟩ := by decide +kernel
@[simp] theorem lit_14 : (", " : Str) = ⟨#[44, 32]⟩ := by decide +kernel
@[simp] theorem lit_15 : ("-" : Str) = ⟨#[45]⟩ := by decide +kernel
@[simp] theorem lit_16 : ("." : Str) = ⟨#[46]⟩ := by decide +kernel
@[simp] theorem lit_17 : ("/" : Str) = ⟨#[47]⟩ := by decide +kernel
@[simp] theorem lit_18 : ("//" : Str) = ⟨#[47, 47]⟩ := by decide +kernel
@[simp] theorem lit_19 : ("1" : Str) = ⟨#[49]⟩ := by decide +kernel
@[simp] theorem lit_20 : ("2" : Str) = ⟨#[50]⟩ := by decide +kernel
@[simp] theorem lit_21 : (":=" : Str) = ⟨#[58, 61]⟩ := by decide +kernel
@[simp] theorem lit_22 : ("<" : Str) = ⟨#[60]⟩ := by decide +kernel
@[simp] theorem lit_23 : ("<-" : Str) = ⟨#[60, 45]⟩ := by decide +kernel
@[simp] theorem lit_24 : ("<=" : Str) = ⟨#[60, 61]⟩ := by decide +kernel
@[simp] theorem lit_25 : ("<>" : Str) = ⟨#[60, 62]⟩ := by decide +kernel
@[simp] theorem lit_26 : ("=" : Str) = ⟨#[61]⟩ := by decide +kernel
@[simp] theorem lit_27 : ("A" : Str) = ⟨#[65]⟩ := by decide +kernel
@[simp] theorem lit_28 : ("Here" : Str) = ⟨#[72, 101, 114, 101]⟩ := by decide +kernel
@[simp] theorem lit_29 : ("[" : Str) = ⟨#[91]⟩ := by decide +kernel
@[simp] theorem lit_30 : ("]" : Str) = ⟨#[93]⟩ := by decide +kernel
@[simp] theorem lit_31 : ("a" : Str) = ⟨#[97]⟩ := by decide +kernel
@[simp] theorem lit_32 : ("a\nc" : Str) = ⟨#[97, 10, 99]⟩ := by decide +kernel
@[simp] theorem lit_33 : ("a!'c" : Str) = ⟨#[97, 33, 39, 99]⟩ := by decide +kernel
@[simp] theorem lit_34 : ("a1" : Str) = ⟨#[97, 49]⟩ := by decide +kernel
@[simp] theorem lit_35 : ("aB" : Str) = ⟨#[97, 66]⟩ := by decide +kernel
@[simp] theorem lit_36 : ("again" : Str) = ⟨#[97, 103, 97, 105, 110]⟩ := by decide +kernel
@[simp] theorem lit_37 : ("and" : Str) = ⟨#[97, 110, 100]⟩ := by decide +kernel
@[simp] theorem lit_38 : ("anew" : Str) = ⟨#[97, 110, 101, 119]⟩ := by decide +kernel
@[simp] theorem lit_39 : ("ask" : Str) = ⟨#[97, 115, 107]⟩ := by decide +kernel
@[simp] theorem lit_40 : ("at" : Str) = ⟨#[97, 116]⟩ := by decide +kernel
@[simp] theorem lit_41 : ("b" : Str) = ⟨#[98]⟩ := by decide +kernel
@[simp] theorem lit_42 : ("back" : Str) = ⟨#[98, 97, 99, 107]⟩ := by decide +kernel
@[simp] theorem lit_43 : ("c" : Str) = ⟨#[99]⟩ := by decide +kernel
@[simp] theorem lit_44 : ("call" : Str) = ⟨#[99, 97, 108, 108]⟩ := by decide +kernel
@[simp] theorem lit_45 : ("call(" : Str) = ⟨#[99, 97, 108, 108, 40]⟩ := by decide +kernel
@[simp] theorem lit_46 : ("cee" : Str) = ⟨#[99, 101, 101]⟩ := by decide +kernel
@[simp] theorem lit_47 : ("d" : Str) = ⟨#[100]⟩ := by decide +kernel
@[simp] theorem lit_48 : ("do" : Str) = ⟨#[100, 111]⟩ := by decide +kernel
@[simp] theorem lit_49 : ("do(" : Str) = ⟨#[100, 111, 40]⟩ := by decide +kernel
@[simp] theorem lit_50 : ("e" : Str) = ⟨#[101]⟩ := by decide +kernel
@[simp] theorem lit_51 : ("ea" : Str) = ⟨#[101, 97]⟩ := by decide +kernel
@[simp] theorem lit_52 : ("ee" : Str) = ⟨#[101, 101]⟩ := by decide +kernel
@[simp] theorem lit_53 : ("eee" : Str) = ⟨#[101, 101, 101]⟩ := by decide +kernel
@[simp] theorem lit_54 : ("every" : Str) = ⟨#[101, 118, 101, 114, 121]⟩ := by decide +kernel
@[simp] theorem lit_55 : ("fall" : Str) = ⟨#[102, 97, 108, 108]⟩ := by decide +kernel
@[simp] theorem lit_56 : ("find" : Str) = ⟨#[102, 105, 110, 100]⟩ := by decide +kernel
@[simp] theorem lit_57 : ("first" : Str) = ⟨#[102, 105, 114, 115, 116]⟩ := by decide +kernel
@[simp] theorem lit_58 : ("gave" : Str) = ⟨#[103, 97, 118, 101]⟩ := by decide +kernel
@[simp] theorem lit_59 : ("give" : Str) = ⟨#[103, 105, 118, 101]⟩ := by decide +kernel
@[simp] theorem lit_60 : ("here" : Str) = ⟨#[104, 101, 114, 101]⟩ := by decide +kernel
@[simp] theorem lit_61 : ("if" : Str) = ⟨#[105, 102]⟩ := by decide +kernel
@[simp] theorem lit_62 : ("is" : Str) = ⟨#[105, 115]⟩ := by decide +kernel
@[simp] theorem lit_63 : ("isnt" : Str) = ⟨#[105, 115, 110, 116]⟩ := by decide +kernel
@[simp] theorem lit_64 : ("items" : Str) = ⟨#[105, 116, 101, 109, 115]⟩ := by decide +kernel
@[simp] theorem lit_65 : ("keep" : Str) = ⟨#[107, 101, 101, 112]⟩ := by decide +kernel
@[simp] theorem lit_66 : ("l" : Str) = ⟨#[108]⟩ := by decide +kernel
@[simp] theorem lit_67 : ("lda" : Str) = ⟨#[108, 100, 97]⟩ := by decide +kernel
@[simp] theorem lit_68 : ("lend" : Str) = ⟨#[108, 101, 110, 100]⟩ := by decide +kernel
@[simp] theorem lit_69 : ("list" : Str) = ⟨#[108, 105, 115, 116]⟩ := by decide +kernel
@[simp] theorem lit_70 : ("m" : Str) = ⟨#[109]⟩ := by decide +kernel
@[simp] theorem lit_71 : ("main" : Str) = ⟨#[109, 97, 105, 110]⟩ := by decide +kernel
@[simp] theorem lit_72 : ("many" : Str) = ⟨#[109, 97, 110, 121]⟩ := by decide +kernel
@[simp] theorem lit_73 : ("match" : Str) = ⟨#[109, 97, 116, 99, 104]⟩ := by decide +kernel
@[simp] theorem lit_74 : ("me" : Str) = ⟨#[109, 101]⟩ := by decide +kernel
@[simp] theorem lit_75 : ("mod" : Str) = ⟨#[109, 111, 100]⟩ := by decide +kernel
@[simp] theorem lit_76 : ("most" : Str) = ⟨#[109, 111, 115, 116]⟩ := by decide +kernel
@[simp] theorem lit_77 : ("most(" : Str) = ⟨#[109, 111, 115, 116, 40]⟩ := by decide +kernel
@[simp] theorem lit_78 : ("move" : Str) = ⟨#[109, 111, 118, 101]⟩ := by decide +kernel
@[simp] theorem lit_79 : ("n" : Str) = ⟨#[110]⟩ := by decide +kernel
@[simp] theorem lit_80 : ("name" : Str) = ⟨#[110, 97, 109, 101]⟩ := by decide +kernel
@[simp] theorem lit_81 : ("nm" : Str) = ⟨#[110, 109]⟩ := by decide +kernel
@[simp] theorem lit_82 : ("no" : Str) = ⟨#[110, 111]⟩ := by decide +kernel
@[simp] theorem lit_83 : ("none" : Str) = ⟨#[110, 111, 110, 101]⟩ := by decide +kernel
@[simp] theorem lit_84 : ("nothing" : Str) = ⟨#[110, 111, 116, 104, 105, 110, 103]⟩ := by decide +kernel
@[simp] theorem lit_85 : ("number" : Str) = ⟨#[110, 117, 109, 98, 101, 114]⟩ := by decide +kernel
@[simp] theorem lit_86 : ("o" : Str) = ⟨#[111]⟩ := by decide +kernel
@[simp] theorem lit_87 : ("oc" : Str) = ⟨#[111, 99]⟩ := by decide +kernel
@[simp] theorem lit_88 : ("oee" : Str) = ⟨#[111, 101, 101]⟩ := by decide +kernel
@[simp] theorem lit_89 : ("op" : Str) = ⟨#[111, 112]⟩ := by decide +kernel
@[simp] theorem lit_90 : ("or" : Str) = ⟨#[111, 114]⟩ := by decide +kernel
@[simp] theorem lit_91 : ("out" : Str) = ⟨#[111, 117, 116]⟩ := by decide +kernel
@[simp] theorem lit_92 : ("place" : Str) = ⟨#[112, 108, 97, 99, 101]⟩ := by decide +kernel
@[simp] theorem lit_93 : ("plus" : Str) = ⟨#[112, 108, 117, 115]⟩ := by decide +kernel
@[simp] theorem lit_94 : ("put" : Str) = ⟨#[112, 117, 116]⟩ := by decide +kernel
@[simp] theorem lit_95 : ("raised" : Str) = ⟨#[114, 97, 105, 115, 101, 100]⟩ := by decide +kernel
@[simp] theorem lit_96 : ("reach" : Str) = ⟨#[114, 101, 97, 99, 104]⟩ := by decide +kernel
@[simp] theorem lit_97 : ("say" : Str) = ⟨#[115, 97, 121]⟩ := by decide +kernel
@[simp] theorem lit_98 : ("scan" : Str) = ⟨#[115, 99, 97, 110]⟩ := by decide +kernel
@[simp] theorem lit_99 : ("size" : Str) = ⟨#[115, 105, 122, 101]⟩ := by decide +kernel
@[simp] theorem lit_100 : ("t" : Str) = ⟨#[116]⟩ := by decide +kernel
@[simp] theorem lit_101 : ("tab" : Str) = ⟨#[116, 97, 98]⟩ := by decide +kernel
@[simp] theorem lit_102 : ("take" : Str) = ⟨#[116, 97, 107, 101]⟩ := by decide +kernel
@[simp] theorem lit_103 : ("test" : Str) = ⟨#[116, 101, 115, 116]⟩ := by decide +kernel
@[simp] theorem lit_104 : ("text" : Str) = ⟨#[116, 101, 120, 116]⟩ := by decide +kernel
@[simp] theorem lit_105 : ("the text is not right" : Str) = ⟨#[116, 104, 101, 32, 116, 101, 120, 116, 32, 105, 115, 32, 110, 111, 116, 32, 114, 105, 103, 104, 116]⟩ := by decide +kernel
@[simp] theorem lit_106 : ("to" : Str) = ⟨#[116, 111]⟩ := by decide +kernel
@[simp] theorem lit_107 : ("triedagain.checks" : Str) = ⟨#[116, 114, 105, 101, 100, 97, 103, 97, 105, 110, 46, 99, 104, 101, 99, 107, 115]⟩ := by decide +kernel
@[simp] theorem lit_108 : ("triedagain.errors" : Str) = ⟨#[116, 114, 105, 101, 100, 97, 103, 97, 105, 110, 46, 101, 114, 114, 111, 114, 115]⟩ := by decide +kernel
@[simp] theorem lit_109 : ("triedagain.programs" : Str) = ⟨#[116, 114, 105, 101, 100, 97, 103, 97, 105, 110, 46, 112, 114, 111, 103, 114, 97, 109, 115]⟩ := by decide +kernel
@[simp] theorem lit_110 : ("triedagain.texts" : Str) = ⟨#[116, 114, 105, 101, 100, 97, 103, 97, 105, 110, 46, 116, 101, 120, 116, 115]⟩ := by decide +kernel
@[simp] theorem lit_111 : ("while" : Str) = ⟨#[119, 104, 105, 108, 101]⟩ := by decide +kernel
@[simp] theorem lit_112 : ("x" : Str) = ⟨#[120]⟩ := by decide +kernel
@[simp] theorem lit_113 : ("xe" : Str) = ⟨#[120, 101]⟩ := by decide +kernel
@[simp] theorem lit_114 : ("y" : Str) = ⟨#[121]⟩ := by decide +kernel
@[simp] theorem lit_115 : ("z" : Str) = ⟨#[122]⟩ := by decide +kernel
@[simp] theorem lit_116 : ("|" : Str) = ⟨#[124]⟩ := by decide +kernel
abbrev c_ALONE : W := .tup [.str ("nothing" : Str), .str ("fall" : Str), .str ("here" : Str)]
abbrev c_DEEPEST : W := .int 8
abbrev c_LEAVING : W := .tup [.str ("back" : Str), .str ("out" : Str), .str ("fall" : Str)]
abbrev c_OPERATORS : W := .tup [.str ("+" : Str), .str ("-" : Str), .str ("*" : Str), .str ("/" : Str), .str ("mod" : Str), .str ("." : Str)]
abbrev c_ROWS : W := .str ("lda" : Str)
abbrev c_TESTS : W := .tup [.str ("<" : Str), .str ("<=" : Str), .str ("=" : Str), .str ("<>" : Str), .str ("is" : Str), .str ("isnt" : Str)]
abbrev c_WORDS : W := .tup (.str ("nothing" : Str) :: .str ("first" : Str) :: .str ("no" : Str) :: .str ("if" : Str) :: .str ("most" : Str) :: .str ("again" : Str) :: .str ("to" : Str) :: .str ("items" : Str) :: .str ("every" : Str) :: .str ("while" : Str) :: .str ("do" : Str) :: .str ("call" : Str) :: .str ("back" : Str) :: .str ("out" : Str) :: .str ("fall" : Str) :: .str ("keep" : Str) :: .str ("ask" : Str) :: .str ("anew" : Str) :: .str ("scan" : Str) :: .str ("move" : Str) :: .str ("tab" : Str) :: .str ("find" : Str) :: .str ("reach" : Str) :: .str ("many" : Str) :: .str ("match" : Str) :: .str ("here" : Str) :: .str ("put" : Str) :: .str ("take" : Str) :: .str ("size" : Str) :: .str ("at" : Str) :: .str ("place" : Str) :: .str ("say" : Str) :: .str ("is" : Str) :: .str ("isnt" : Str) :: .str ("list" : Str) :: .str ("mod" : Str) :: [])
noncomputable def b_is_row (C : Fn → Cal) : SM := (sRet (eN isiN [(eVar 0), (eN tupN [(eC (.ty "list")), (eC (.ty "tuple"))])]))
noncomputable def b_is_integer (C : Fn → Cal) : SM := (sRet (eAnd (eN isiN [(eVar 0), (eC (.ty "int"))]) (eAnd (eNot (eN isiN [(eVar 0), (eC (.ty "bool"))])) (eChain leW leW (eVar 1) (eVar 0) (eVar 2)))))
noncomputable def b_is_name (C : Fn → Cal) : SM := (sSeq (sIf (tOr (tNot (tE (eN isiN [(eVar 0), (eC (.ty "str"))]))) (tNot (tB (eChain leW leW (eC (.int 1)) (eN lenN [(eVar 0)]) (eC (.int 8)))))) (sRet (eC (.bl false))) sNil)
  (sSeq (sFor (iE (eVar 0)) (gVar 1) (sIf (tNot (tB (eChain leW leW (eC (.int 97)) (eN ordN [(eVar 1)]) (eC (.int 122))))) (sRet (eC (.bl false))) sNil))
  (sRet (e2 (notInW gdT) (eVar 0) (eC (c_WORDS))))))
noncomputable def b_is_character (C : Fn → Cal) : SM := (sRet (eAnd (eChain leW leW (eC (.int 32)) (eN ordN [(eVar 0)]) (eC (.int 126))) (eAnd (e2 neW (eN ordN [(eVar 0)]) (eC (.int 37))) (e2 neW (eN ordN [(eVar 0)]) (eC (.int 39))))))
noncomputable def b_is_written (C : Fn → Cal) : SM := (sSeq (sIf (tOr (tNot (tE (eN isiN [(eVar 0), (eC (.ty "str"))]))) (tB (e2 gtW (eN lenN [(eVar 0)]) (eC (.int 20))))) (sRet (eC (.bl false))) sNil)
  (sSeq (sFor (iE (eVar 0)) (gVar 1) (sIf (tNot (tE (eCall (C .f_is_character) [(eVar 1)]))) (sRet (eC (.bl false))) sNil))
  (sRet (eC (.bl true)))))
noncomputable def b_is_word (C : Fn → Cal) : SM := (sRet (eAnd (eN isiN [(eVar 0), (eC (.ty "str"))]) (e2 (inW gdT) (eVar 0) (eVar 1))))
noncomputable def b_is_plain (C : Fn → Cal) : SM := (sSeq (sIf (tB (e2 eqW (eVar 0) (eC (.str ("n" : Str))))) (sRet (eCall (C .f_is_integer) [(eVar 1), (e1 negW (eC (.int 999))), (eC (.int 999))])) sNil)
  (sSeq (sIf (tB (e2 eqW (eVar 0) (eC (.str ("m" : Str))))) (sRet (eCall (C .f_is_integer) [(eVar 1), (eC (.int 0)), (eC (.int 20))])) sNil)
  (sSeq (sIf (tB (e2 eqW (eVar 0) (eC (.str ("t" : Str))))) (sRet (eCall (C .f_is_written) [(eVar 1)])) sNil)
  (sSeq (sIf (tB (e2 eqW (eVar 0) (eC (.str ("x" : Str))))) (sRet (eCall (C .f_is_name) [(eVar 1)])) sNil)
  (sSeq (sIf (tB (e2 eqW (eVar 0) (eC (.str ("o" : Str))))) (sRet (eCall (C .f_is_word) [(eVar 1), (eC (c_OPERATORS))])) sNil)
  (sRet (eCall (C .f_is_word) [(eVar 1), (eC (c_TESTS))])))))))
noncomputable def b_is_row_of_parts (C : Fn → Cal) : SM := (sSeq (sIf (tNot (tE (eCall (C .f_is_row) [(eVar 1)]))) (sRet (eC (.bl false))) sNil)
  (sSeq (sAsg (gRow [4, 5]) (eN tupN [(eC (.int 0)), (eC (.int 4))]))
  (sSeq (sIf (tB (e2 eqW (eVar 0) (eC (.str ("d" : Str))))) (sAsg (gRow [4, 5]) (eN tupN [(eC (.int 1)), (eC (.int 6))])) (sIf (tB (e2 eqW (eVar 0) (eC (.str ("a" : Str))))) (sSet 5 (eC (.int 3))) sNil))
  (sSeq (sIf (tNot (tB (eChain leW leW (eVar 4) (eN lenN [(eVar 1)]) (eVar 5)))) (sRet (eC (.bl false))) sNil)
  (sSeq (sFor (iE (eVar 1)) (gVar 6) (sIf (tNot (tE (eCall (C .f_is_within) [(eVar 6), (eVar 2), (eVar 3)]))) (sRet (eC (.bl false))) sNil))
  (sRet (eC (.bl true))))))))
noncomputable def b_is_within (C : Fn → Cal) : SM := (sSeq (sIf (tOr (tB (e2 ltW (eVar 1) (eC (.int 1)))) (tOr (tNot (tE (eCall (C .f_is_row) [(eVar 0)]))) (tB (e2 ltW (eN lenN [(eVar 0)]) (eC (.int 1)))))) (sRet (eC (.bl false))) sNil)
  (sSeq (sSet 3 (e2 (getW gdT) (eVar 0) (eC (.int 0))))
  (sSeq (sIf (tOr (tNot (tE (eN isiN [(eVar 3), (eC (.ty "str"))]))) (tOr (tB (e2 (notInW gdT) (eVar 3) (eC (.glo ("SHAPES" : Str))))) (tAnd (tE (eVar 2)) (tB (e2 (inW gdT) (eVar 3) (eC (c_LEAVING))))))) (sRet (eC (.bl false))) sNil)
  (sSeq (sSet 4 (e2 (getW gdT) (eC (.glo ("SHAPES" : Str))) (eVar 3)))
  (sSeq (sIf (tB (e2 neW (eN lenN [(eVar 0)]) (e2 (addW false) (eN lenN [(eVar 4)]) (eC (.int 1))))) (sRet (eC (.bl false))) sNil)
  (sSeq (sSet 5 (eOr (eVar 2) (e2 eqW (eVar 3) (eC (.str ("keep" : Str))))))
  (sSeq (sFor (iRange1 (eN lenN [(eVar 4)])) (gVar 6) (sSeq (sPar 7 8 (e2 (getW gdT) (eVar 4) (eVar 6)) (e2 (getW gdT) (eVar 0) (e2 (addW false) (eVar 6) (eC (.int 1)))))
  (sSeq (sIf (tB (e2 eqW (eVar 7) (eC (.str ("e" : Str))))) (sSet 9 (eCall (C .f_is_within) [(eVar 8), (e2 subW (eVar 1) (eC (.int 1))), (eVar 5)])) (sIf (tB (e2 (inW gdT) (eVar 7) (eC (c_ROWS)))) (sSet 9 (eCall (C .f_is_row_of_parts) [(eVar 7), (eVar 8), (e2 subW (eVar 1) (eC (.int 1))), (eVar 5)])) (sSet 9 (eCall (C .f_is_plain) [(eVar 7), (eVar 8)]))))
  (sIf (tNot (tE (eVar 9))) (sRet (eC (.bl false))) sNil))))
  (sRet (eC (.bl true))))))))))
noncomputable def b_is_expression (C : Fn → Cal) : SM := (sRet (eCall (C .f_is_within) [(eVar 0), (eC (c_DEEPEST)), (eC (.bl false))]))
noncomputable def b_joined (C : Fn → Cal) : SM := (sRet (eMeth "str" joinM (eC (.str (", " : Str))) [(eLc false (iE (eVar 0)) [1] (gVar 1) tYesM (eCall (C .f_written) [(eVar 1)]))]))
noncomputable def b_pair (C : Fn → Cal) : SM := (sRet (e2 (addW false) (e2 (addW false) (e2 (addW false) (e2 (addW false) (e2 (addW false) (e2 (addW false) (eC (.str ("(" : Str))) (eVar 0)) (eC (.str (" " : Str)))) (eVar 1)) (eC (.str (" " : Str)))) (eVar 2)) (eC (.str (")" : Str)))))
noncomputable def b_written (C : Fn → Cal) : SM := (sSeq (sSet 1 (e2 (getW gdT) (eVar 0) (eC (.int 0))))
  (sSeq (sIf (tB (e2 (inW gdT) (eVar 1) (eC (c_ALONE)))) (sRet (eVar 1)) sNil)
  (sSeq (sIf (tB (e2 eqW (eVar 1) (eC (.str ("number" : Str))))) (sRet (eN strN [(e2 (getW gdT) (eVar 0) (eC (.int 1)))])) sNil)
  (sSeq (sIf (tB (e2 eqW (eVar 1) (eC (.str ("text" : Str))))) (sRet (e2 (addW false) (e2 (addW false) (eC (.str ("'" : Str))) (e2 (getW gdT) (eVar 0) (eC (.int 1)))) (eC (.str ("'" : Str))))) sNil)
  (sSeq (sIf (tB (e2 eqW (eVar 1) (eC (.str ("name" : Str))))) (sRet (e2 (getW gdT) (eVar 0) (eC (.int 1)))) sNil)
  (sSeq (sIf (tB (e2 eqW (eVar 1) (eC (.str ("list" : Str))))) (sRet (e2 (addW false) (e2 (addW false) (eC (.str ("[" : Str))) (eCall (C .f_joined) [(e2 (getW gdT) (eVar 0) (eC (.int 1)))])) (eC (.str ("]" : Str))))) sNil)
  (sSeq (sIf (tOr (tB (e2 eqW (eVar 1) (eC (.str ("op" : Str))))) (tB (e2 eqW (eVar 1) (eC (.str ("test" : Str)))))) (sRet (eCall (C .f_pair) [(eCall (C .f_written) [(e2 (getW gdT) (eVar 0) (eC (.int 2)))]), (e2 (getW gdT) (eVar 0) (eC (.int 1))), (eCall (C .f_written) [(e2 (getW gdT) (eVar 0) (eC (.int 3)))])])) sNil)
  (sSeq (sIf (tB (e2 (inW gdT) (eVar 1) (eC (.glo ("BETWEEN" : Str))))) (sRet (eCall (C .f_pair) [(eCall (C .f_written) [(e2 (getW gdT) (eVar 0) (eC (.int 1)))]), (e2 (getW gdT) (eC (.glo ("BETWEEN" : Str))) (eVar 1)), (eCall (C .f_written) [(e2 (getW gdT) (eVar 0) (eC (.int 2)))])])) sNil)
  (sSeq (sIf (tB (e2 eqW (eVar 1) (eC (.str ("give" : Str))))) (sRet (eCall (C .f_pair) [(e2 (getW gdT) (eVar 0) (eC (.int 1))), (eC (.str (":=" : Str))), (eCall (C .f_written) [(e2 (getW gdT) (eVar 0) (eC (.int 2)))])])) sNil)
  (sSeq (sIf (tB (e2 eqW (eVar 1) (eC (.str ("lend" : Str))))) (sRet (eCall (C .f_pair) [(e2 (getW gdT) (eVar 0) (eC (.int 1))), (eC (.str ("<-" : Str))), (eCall (C .f_written) [(e2 (getW gdT) (eVar 0) (eC (.int 2)))])])) sNil)
  (sRet (e2 (addW false) (e2 (addW false) (e2 (addW false) (eVar 1) (eC (.str ("(" : Str)))) (eCall (C .f_bracketed) [(eVar 0)])) (eC (.str (")" : Str)))))))))))))))
noncomputable def b_bracketed (C : Fn → Cal) : SM := (sSeq (sSet 1 (e2 (getW gdT) (eVar 0) (eC (.int 0))))
  (sSeq (sIf (tB (e2 eqW (eVar 1) (eC (.str ("most" : Str))))) (sRet (e2 (addW false) (e2 (addW false) (eN strN [(e2 (getW gdT) (eVar 0) (eC (.int 1)))]) (eC (.str (", " : Str)))) (eCall (C .f_written) [(e2 (getW gdT) (eVar 0) (eC (.int 2)))]))) sNil)
  (sSeq (sIf (tB (e2 eqW (eVar 1) (eC (.str ("do" : Str))))) (sRet (eCall (C .f_joined) [(e2 (getW gdT) (eVar 0) (eC (.int 1)))])) sNil)
  (sSeq (sIf (tB (e2 eqW (eVar 1) (eC (.str ("call" : Str))))) (sRet (eCall (C .f_joined) [(e2 (addW false) (eN (lstN false) [(e2 (getW gdT) (eVar 0) (eC (.int 1)))]) (eN (listN false) [(e2 (getW gdT) (eVar 0) (eC (.int 2)))]))])) sNil)
  (sRet (eCall (C .f_joined) [(eCut false (eVar 0) (some (eC (.int 1))) none)]))))))
noncomputable def b_expression_text (C : Fn → Cal) : SM := (sSeq (sIf (tNot (tE (eCall (C .f_is_expression) [(eVar 0)]))) (sRaise0 ("NoExpression" : Str)) sNil)
  (sRet (eCall (C .f_written) [(eVar 0)])))
noncomputable def b__law_bag (C : Fn → Cal) : SM := (sSeq (sSet 1 (eLc true (iE (eCut true (eVar 0) none (some (eC (.int 63))))) [2] (gVar 2) tYesM (eN absN [(eN intN [(eVar 2)])])))
  (sRet (eN (lstN true) [(eVar 1), (eLc true (iE (eVar 1)) [2] (gVar 2) tYesM (e2 geW (eVar 2) (e2 powW (eC (.int 10)) (eC (.int 18))))), (eC (.int 0)), (eC (.int 0))])))
noncomputable def b__law_mixed (C : Fn → Cal) : SM := (sSeq (sSet 2 (e2 modW (e2 (mulW false) (e2 (addW false) (e2 (addW false) (e2 modW (eN intN [(eVar 0)]) (eC (.int 2147483647))) (e2 (mulW false) (eC (.int 7919)) (eVar 1))) (eC (.int 1))) (eC (.int 48271))) (eC (.int 2147483647))))
  (sSeq (sSet 2 (e2 modW (e2 (mulW false) (eVar 2) (e2 (addW false) (e2 fdivW (eVar 2) (eC (.int 1009))) (eC (.int 69621)))) (eC (.int 2147483647))))
  (sRet (e2 modW (e2 (mulW false) (eVar 2) (e2 (addW false) (e2 fdivW (eVar 2) (eC (.int 2003))) (eC (.int 40692)))) (eC (.int 2147483399))))))
noncomputable def b__law_draw (C : Fn → Cal) : SM := (sSeq (sPar 2 3 (e2 (getW gdT) (eVar 0) (eC (.int 0))) (e2 (getW gdT) (eVar 0) (eC (.int 1))))
  (sSeq (sSetIx setW (eVar 0) (eC (.int 3)) (e2 (addW false) (e2 (getW gdT) (eVar 0) (eC (.int 3))) (eC (.int 1))))
  (sSeq (sIf (tB (e2 eqW (eN lenN [(eVar 2)]) (eC (.int 0)))) (sRet (e2 modW (eN intN [(eCall (C .f__law_mixed) [(eC (.int 0)), (e2 (getW gdT) (eVar 0) (eC (.int 3)))])]) (eVar 1))) sNil)
  (sSeq (sSet 4 (e2 modW (eN intN [(e2 (getW gdT) (eVar 0) (eC (.int 2)))]) (eN lenN [(eVar 2)])))
  (sSeq (sSet 5 (e2 (getW gdT) (eVar 2) (eVar 4)))
  (sSeq (sIf (tE (e2 (getW gdT) (eVar 3) (eVar 4))) (sSeq (sSetIx setW (eVar 2) (eVar 4) (e2 fdivW (eVar 5) (eVar 1)))
  (sSeq (sIf (tB (e2 eqW (e2 (getW gdT) (eVar 2) (eVar 4)) (eC (.int 0)))) (sSeq (sSetIx setW (eVar 3) (eVar 4) (eC (.bl false)))
  (sSetIx setW (eVar 0) (eC (.int 2)) (e2 (addW false) (e2 (getW gdT) (eVar 0) (eC (.int 2))) (eC (.int 1))))) sNil)
  (sRet (e2 modW (eN intN [(eVar 5)]) (eVar 1))))) sNil)
  (sSeq (sSetIx setW (eVar 0) (eC (.int 2)) (e2 (addW false) (e2 (getW gdT) (eVar 0) (eC (.int 2))) (eC (.int 1))))
  (sRet (e2 modW (eN intN [(eCall (C .f__law_mixed) [(eVar 5), (e2 (getW gdT) (eVar 0) (eC (.int 3)))])]) (eVar 1))))))))))
noncomputable def b__law_words (C : Fn → Cal) : SM := (sSeq (sSet 0 (eN (lstN false) [(eC (.str ("nothing" : Str))), (eC (.str ("first" : Str))), (eC (.str ("no" : Str))), (eC (.str ("if" : Str))), (eC (.str ("most" : Str))), (eC (.str ("again" : Str))), (eC (.str ("to" : Str))), (eC (.str ("items" : Str))), (eC (.str ("every" : Str))), (eC (.str ("while" : Str))), (eC (.str ("do" : Str))), (eC (.str ("call" : Str))), (eC (.str ("back" : Str)))]))
  (sSeq (sSet 0 (e2 (addW false) (eVar 0) (eN (lstN false) [(eC (.str ("out" : Str))), (eC (.str ("fall" : Str))), (eC (.str ("keep" : Str))), (eC (.str ("ask" : Str))), (eC (.str ("anew" : Str))), (eC (.str ("scan" : Str))), (eC (.str ("move" : Str))), (eC (.str ("tab" : Str))), (eC (.str ("find" : Str))), (eC (.str ("reach" : Str))), (eC (.str ("many" : Str))), (eC (.str ("match" : Str)))])))
  (sRet (e2 (addW false) (eVar 0) (eN (lstN false) [(eC (.str ("here" : Str))), (eC (.str ("put" : Str))), (eC (.str ("take" : Str))), (eC (.str ("size" : Str))), (eC (.str ("at" : Str))), (eC (.str ("place" : Str))), (eC (.str ("say" : Str))), (eC (.str ("is" : Str))), (eC (.str ("isnt" : Str))), (eC (.str ("list" : Str))), (eC (.str ("mod" : Str)))])))))
noncomputable def b__law_letters (C : Fn → Cal) : SM := (sRet (eMeth "str" joinM (eC (.str ("" : Str))) [(eLc false (iRange1 (eVar 1)) [2] (gVar 2) tYesM (e2 (getW gdT) (eC (.str ("abcdefghijklmnopqrstuvwxyz" : Str))) (eCall (C .f__law_draw) [(eVar 0), (eC (.int 26))])))]))
noncomputable def b__law_name (C : Fn → Cal) : SM := (sSeq (sSet 1 (eCall (C .f__law_draw) [(eVar 0), (eC (.int 7))]))
  (sSeq (sSet 2 (e2 (getW gdT) (eCall (C .f__law_words) []) (eCall (C .f__law_draw) [(eVar 0), (eC (.int 36))])))
  (sSeq (sSet 3 (eCall (C .f__law_letters) [(eVar 0), (e2 (addW false) (eC (.int 1)) (eCall (C .f__law_draw) [(eVar 0), (eC (.int 8))]))]))
  (sSeq (sSet 2 (e2 (getW gdT) (eN (lstN false) [(e2 (addW false) (eCut false (eVar 2) none (some (eC (.int 7)))) (eCut false (eVar 3) none (some (eC (.int 1))))), (eCut false (eVar 2) none (some (e1 negW (eC (.int 1))))), (eVar 3), (eC (.str ("x" : Str))), (eC (.str ("y" : Str))), (eC (.str ("n" : Str))), (eC (.str ("main" : Str)))]) (eVar 1)))
  (sSeq (sIf (tB (e2 (inW gdT) (eVar 2) (eCall (C .f__law_words) []))) (sRet (e2 (addW false) (eC (.str ("z" : Str))) (eCut false (eVar 2) (some (eC (.int 1))) none))) sNil)
  (sRet (eVar 2)))))))
noncomputable def b__law_written (C : Fn → Cal) : SM := (sSeq (sSet 1 (eC (.str (" !\"#$&()*+,-./0123456789:;<=>?@ABCDEFGHIJKLMNOPQRSTUVWXYZ[\\]^_`abcdefghijklmnopqrstuvwxyz{|}~" : Str))))
  (sSeq (sSet 2 (eCall (C .f__law_draw) [(eVar 0), (eC (.int 6))]))
  (sSeq (sIf (tB (e2 eqW (eVar 2) (eC (.int 5)))) (sSet 2 (eCall (C .f__law_draw) [(eVar 0), (eC (.int 21))])) sNil)
  (sRet (eMeth "str" joinM (eC (.str ("" : Str))) [(eLc false (iRange1 (eVar 2)) [3] (gVar 3) tYesM (e2 (getW gdT) (eVar 1) (eCall (C .f__law_draw) [(eVar 0), (eN lenN [(eVar 1)])])))])))))
noncomputable def b__law_shapes (C : Fn → Cal) : SM := (sSeq (sSet 0 (eN (dicN true) (flat [((eC (.str ("nothing" : Str))), (eC (.str ("" : Str)))), ((eC (.str ("number" : Str))), (eC (.str ("n" : Str)))), ((eC (.str ("text" : Str))), (eC (.str ("t" : Str)))), ((eC (.str ("name" : Str))), (eC (.str ("x" : Str)))), ((eC (.str ("list" : Str))), (eC (.str ("l" : Str)))), ((eC (.str ("op" : Str))), (eC (.str ("oee" : Str)))), ((eC (.str ("test" : Str))), (eC (.str ("cee" : Str)))), ((eC (.str ("fall" : Str))), (eC (.str ("" : Str))))])))
  (sSeq (sFor (iE (eN (lstN false) [(eC (.str ("or" : Str))), (eC (.str ("and" : Str))), (eC (.str ("to" : Str))), (eC (.str ("every" : Str))), (eC (.str ("while" : Str))), (eC (.str ("scan" : Str))), (eC (.str ("put" : Str))), (eC (.str ("at" : Str)))])) (gVar 1) (sSetIx setW (eVar 0) (eVar 1) (eC (.str ("ee" : Str)))))
  (sSeq (sSet 2 (eN (lstN false) [(eC (.str ("first" : Str))), (eC (.str ("no" : Str))), (eC (.str ("again" : Str))), (eC (.str ("items" : Str))), (eC (.str ("back" : Str))), (eC (.str ("out" : Str))), (eC (.str ("keep" : Str))), (eC (.str ("ask" : Str))), (eC (.str ("anew" : Str))), (eC (.str ("move" : Str))), (eC (.str ("tab" : Str))), (eC (.str ("find" : Str))), (eC (.str ("reach" : Str))), (eC (.str ("many" : Str)))]))
  (sSeq (sFor (iE (e2 (addW false) (eVar 2) (eN (lstN false) [(eC (.str ("match" : Str))), (eC (.str ("take" : Str))), (eC (.str ("size" : Str))), (eC (.str ("say" : Str)))]))) (gVar 1) (sSetIx setW (eVar 0) (eVar 1) (eC (.str ("e" : Str)))))
  (sSeq (sSet 3 (eN (dicN false) (flat [((eC (.str ("if" : Str))), (eC (.str ("eee" : Str)))), ((eC (.str ("place" : Str))), (eC (.str ("eee" : Str)))), ((eC (.str ("most" : Str))), (eC (.str ("me" : Str)))), ((eC (.str ("give" : Str))), (eC (.str ("xe" : Str)))), ((eC (.str ("lend" : Str))), (eC (.str ("xe" : Str)))), ((eC (.str ("do" : Str))), (eC (.str ("d" : Str)))), ((eC (.str ("call" : Str))), (eC (.str ("ea" : Str)))), ((eC (.str ("here" : Str))), (eC (.str ("" : Str))))])))
  (sSeq (sExpr (eMeth "dict" updateM (eVar 0) [(eVar 3)]))
  (sRet (eVar 0))))))))
noncomputable def b__law_leaf (C : Fn → Cal) : SM := (sSeq (sSet 2 (eCall (C .f__law_draw) [(eVar 0), (eC (.int 7))]))
  (sSeq (sIf (tAnd (tB (e2 eqW (eVar 2) (eC (.int 4)))) (tB (e2 eqW (eVar 1) (eC (.int 1))))) (sRet (eN tupN [(eC (.str ("nothing" : Str)))])) sNil)
  (sSeq (sIf (tB (e2 gtW (eVar 2) (eC (.int 5)))) (sRet (eN tupN [(eC (.str ("name" : Str))), (eCall (C .f__law_name) [(eVar 0)])])) sNil)
  (sSeq (sIf (tB (e2 eqW (eVar 2) (eC (.int 1)))) (sRet (eN tupN [(eC (.str ("number" : Str))), (e2 subW (eCall (C .f__law_draw) [(eVar 0), (eC (.int 1999))]) (eC (.int 999)))])) sNil)
  (sSeq (sIf (tB (e2 eqW (eVar 2) (eC (.int 2)))) (sRet (eN tupN [(eC (.str ("text" : Str))), (eCall (C .f__law_written) [(eVar 0)])])) sNil)
  (sRet (e2 (getW gdT) (eN (lstN false) [(eN tupN [(eC (.str ("nothing" : Str)))]), (eC (.non)), (eC (.non)), (eN tupN [(eC (.str ("list" : Str))), (eN (lstN false) [])]), (eN tupN [(eC (.str ("fall" : Str)))]), (eN (lstN false) [(eC (.str ("here" : Str)))])]) (eVar 2))))))))
noncomputable def b__law_item (C : Fn → Cal) : SM := (sSeq (sIf (tB (e2 eqW (eVar 1) (eC (.str ("e" : Str))))) (sRet (eCall (C .f__law_expression) [(eVar 0), (eVar 2), (eVar 3), (eVar 4)])) sNil)
  (sSeq (sIf (tB (e2 eqW (eVar 1) (eC (.str ("n" : Str))))) (sRet (e2 subW (eCall (C .f__law_draw) [(eVar 0), (eC (.int 1999))]) (eC (.int 999)))) sNil)
  (sSeq (sIf (tB (e2 eqW (eVar 1) (eC (.str ("m" : Str))))) (sRet (eCall (C .f__law_draw) [(eVar 0), (eC (.int 21))])) sNil)
  (sSeq (sIf (tB (e2 (inW gdT) (eVar 1) (eC (.str ("oc" : Str))))) (sSeq (sSet 5 (eN (lstN false) [(eC (.str ("+" : Str))), (eC (.str ("-" : Str))), (eC (.str ("*" : Str))), (eC (.str ("/" : Str))), (eC (.str ("mod" : Str))), (eC (.str ("." : Str))), (eC (.str ("<" : Str))), (eC (.str ("<=" : Str))), (eC (.str ("=" : Str))), (eC (.str ("<>" : Str))), (eC (.str ("is" : Str))), (eC (.str ("isnt" : Str)))]))
  (sRet (e2 (getW gdT) (eVar 5) (e2 (addW false) (eCall (C .f__law_draw) [(eVar 0), (eC (.int 6))]) (e2 (mulW false) (eC (.int 6)) (eN intN [(e2 eqW (eVar 1) (eC (.str ("c" : Str))))])))))) sNil)
  (sSeq (sIf (tB (e2 eqW (eVar 1) (eC (.str ("x" : Str))))) (sRet (eCall (C .f__law_name) [(eVar 0)])) sNil)
  (sSeq (sIf (tB (e2 eqW (eVar 1) (eC (.str ("t" : Str))))) (sRet (eCall (C .f__law_written) [(eVar 0)])) sNil)
  (sSeq (sSet 6 (e2 (addW false) (eCall (C .f__law_draw) [(eVar 0), (e2 (getW gdT) (eN (dicN false) (flat [((eC (.str ("l" : Str))), (eC (.int 5))), ((eC (.str ("d" : Str))), (eC (.int 6))), ((eC (.str ("a" : Str))), (eC (.int 4)))])) (eVar 1))]) (eN intN [(e2 eqW (eVar 1) (eC (.str ("d" : Str))))])))
  (sSeq (sSet 7 (eCall (C .f__law_draw) [(eVar 0), (eC (.int 2))]))
  (sSeq (sSet 5 (eLc false (iRange1 (eVar 6)) [8] (gVar 8) tYesM (eCall (C .f__law_expression) [(eVar 0), (eVar 2), (eVar 3), (eVar 4)])))
  (sRet (e2 (getW gdT) (eN (lstN false) [(eVar 5), (eN tupleN [(eVar 5)])]) (eVar 7))))))))))))
noncomputable def b__law_expression (C : Fn → Cal) : SM := (sSeq (sSetIx setW (eVar 1) (eC (.int 0)) (e2 subW (e2 (getW gdT) (eVar 1) (eC (.int 0))) (eC (.int 1))))
  (sSeq (sIf (tOr (tB (e2 leW (eVar 2) (eC (.int 1)))) (tB (e2 leW (e2 (getW gdT) (eVar 1) (eC (.int 0))) (eC (.int 0))))) (sRet (eCall (C .f__law_leaf) [(eVar 0), (eVar 3)])) sNil)
  (sSeq (sSet 4 (eCall (C .f__law_shapes) []))
  (sSeq (sSet 5 (e2 (getW gdT) (eN (listN false) [(eVar 4)]) (eCall (C .f__law_draw) [(eVar 0), (eN lenN [(eVar 4)])])))
  (sSeq (sIf (tAnd (tB (e2 eqW (eVar 3) (eC (.int 1)))) (tB (e2 (inW gdT) (eVar 5) (eN (lstN false) [(eC (.str ("back" : Str))), (eC (.str ("out" : Str))), (eC (.str ("fall" : Str)))])))) (sSet 5 (eC (.str ("say" : Str)))) sNil)
  (sSeq (sSet 6 (eN maxN [(eVar 3), (eN intN [(e2 eqW (eVar 5) (eC (.str ("keep" : Str))))])]))
  (sSeq (sSet 7 (eN (lstN true) [(eVar 5)]))
  (sSeq (sFor (iE (e2 (getW gdT) (eVar 4) (eVar 5))) (gVar 8) (sExpr (eMeth "list" appendM (eVar 7) [(eCall (C .f__law_item) [(eVar 0), (eVar 8), (eVar 1), (e2 subW (eVar 2) (eC (.int 1))), (eVar 6)])])))
  (sRet (e2 (getW gdT) (eN (lstN false) [(eVar 7), (eN tupleN [(eVar 7)])]) (eN minN [(eCall (C .f__law_draw) [(eVar 0), (eC (.int 3))]), (eC (.int 1))])))))))))))
noncomputable def b__law_is_name (C : Fn → Cal) : SM := (sSeq (sIf (tOr (tNot (tE (eN isiN [(eVar 0), (eC (.ty "str"))]))) (tOr (tB (e2 ltW (eN lenN [(eVar 0)]) (eC (.int 1)))) (tOr (tB (e2 gtW (eN lenN [(eVar 0)]) (eC (.int 8)))) (tB (e2 (inW gdT) (eVar 0) (eCall (C .f__law_words) [])))))) (sRet (eC (.bl false))) sNil)
  (sRet (eN allN [(eLc false (iE (eVar 0)) [1] (gVar 1) tYesM (eAnd (e2 leW (eC (.int 97)) (eN ordN [(eVar 1)])) (e2 leW (eN ordN [(eVar 1)]) (eC (.int 122)))))])))
noncomputable def b__law_is_text (C : Fn → Cal) : SM := (sSeq (sIf (tOr (tNot (tE (eN isiN [(eVar 0), (eC (.ty "str"))]))) (tB (e2 gtW (eN lenN [(eVar 0)]) (eC (.int 20))))) (sRet (eC (.bl false))) sNil)
  (sRet (eN allN [(eLc false (iE (eVar 0)) [1] (gVar 1) tYesM (eAnd (e2 leW (eC (.int 32)) (eN ordN [(eVar 1)])) (eAnd (e2 leW (eN ordN [(eVar 1)]) (eC (.int 126))) (eAnd (e2 neW (eN ordN [(eVar 1)]) (eC (.int 37))) (e2 neW (eN ordN [(eVar 1)]) (eC (.int 39)))))))])))
noncomputable def b__law_is_item (C : Fn → Cal) : SM := (sSeq (sIf (tB (e2 eqW (eVar 0) (eC (.str ("e" : Str))))) (sRet (eCall (C .f__law_is) [(eVar 1), (eVar 2), (eVar 3)])) sNil)
  (sSeq (sIf (tB (e2 (inW gdT) (eVar 0) (eC (.str ("nm" : Str))))) (sSeq (sPar 4 5 (e2 (getW gdT) (eN (lstN false) [(e1 negW (eC (.int 999))), (eC (.int 0))]) (eN intN [(e2 eqW (eVar 0) (eC (.str ("m" : Str))))])) (e2 (getW gdT) (eN (lstN false) [(eC (.int 999)), (eC (.int 20))]) (eN intN [(e2 eqW (eVar 0) (eC (.str ("m" : Str))))])))
  (sRet (eAnd (eN isiN [(eVar 1), (eC (.ty "int"))]) (eAnd (eNot (eN isiN [(eVar 1), (eC (.ty "bool"))])) (eAnd (e2 leW (eVar 4) (eVar 1)) (e2 leW (eVar 1) (eVar 5))))))) sNil)
  (sSeq (sIf (tB (e2 eqW (eVar 0) (eC (.str ("x" : Str))))) (sRet (eCall (C .f__law_is_name) [(eVar 1)])) sNil)
  (sSeq (sIf (tB (e2 eqW (eVar 0) (eC (.str ("t" : Str))))) (sRet (eCall (C .f__law_is_text) [(eVar 1)])) sNil)
  (sSeq (sIf (tB (e2 (inW gdT) (eVar 0) (eC (.str ("oc" : Str))))) (sSeq (sSet 6 (e2 (getW gdT) (eN (dicN false) (flat [((eC (.str ("o" : Str))), (eN (lstN false) [(eC (.str ("+" : Str))), (eC (.str ("-" : Str))), (eC (.str ("*" : Str))), (eC (.str ("/" : Str))), (eC (.str ("mod" : Str))), (eC (.str ("." : Str)))])), ((eC (.str ("c" : Str))), (eN (lstN false) [(eC (.str ("<" : Str))), (eC (.str ("<=" : Str))), (eC (.str ("=" : Str))), (eC (.str ("<>" : Str))), (eC (.str ("is" : Str))), (eC (.str ("isnt" : Str)))]))])) (eVar 0)))
  (sRet (eAnd (eN isiN [(eVar 1), (eC (.ty "str"))]) (e2 (inW gdT) (eVar 1) (eVar 6))))) sNil)
  (sSeq (sIf (tOr (tNot (tE (eN isiN [(eVar 1), (eN tupN [(eC (.ty "list")), (eC (.ty "tuple"))])]))) (tB (e2 gtW (eN lenN [(eVar 1)]) (e2 (getW gdT) (eN (dicN false) (flat [((eC (.str ("l" : Str))), (eC (.int 4))), ((eC (.str ("d" : Str))), (eC (.int 6))), ((eC (.str ("a" : Str))), (eC (.int 3)))])) (eVar 0))))) (sRet (eC (.bl false))) sNil)
  (sSeq (sFor (iE (eVar 1)) (gVar 7) (sIf (tNot (tE (eCall (C .f__law_is) [(eVar 7), (eVar 2), (eVar 3)]))) (sRet (eC (.bl false))) sNil))
  (sRet (eOr (e2 neW (eVar 0) (eC (.str ("d" : Str)))) (e2 gtW (eN lenN [(eVar 1)]) (eC (.int 0))))))))))))
noncomputable def b__law_is (C : Fn → Cal) : SM := (sSeq (sIf (tOr (tNot (tE (eN isiN [(eVar 0), (eN tupN [(eC (.ty "list")), (eC (.ty "tuple"))])]))) (tOr (tB (e2 eqW (eN lenN [(eVar 0)]) (eC (.int 0)))) (tB (e2 ltW (eVar 1) (eC (.int 1)))))) (sRet (eC (.bl false))) sNil)
  (sSeq (sSet 3 (eCall (C .f__law_shapes) []))
  (sSeq (sSet 4 (e2 (getW gdT) (eVar 0) (eC (.int 0))))
  (sSeq (sIf (tOr (tNot (tE (eN isiN [(eVar 4), (eC (.ty "str"))]))) (tOr (tB (e2 (notInW gdT) (eVar 4) (eVar 3))) (tB (e2 neW (eN lenN [(eVar 0)]) (e2 (addW false) (eN lenN [(e2 (getW gdT) (eVar 3) (eVar 4))]) (eC (.int 1))))))) (sRet (eC (.bl false))) sNil)
  (sSeq (sIf (tAnd (tE (eVar 2)) (tB (e2 (inW gdT) (eVar 4) (eN (lstN false) [(eC (.str ("back" : Str))), (eC (.str ("out" : Str))), (eC (.str ("fall" : Str)))])))) (sRet (eC (.bl false))) sNil)
  (sSeq (sFor (iRange1 (eN lenN [(e2 (getW gdT) (eVar 3) (eVar 4))])) (gVar 5) (sIf (tNot (tE (eCall (C .f__law_is_item) [(e2 (getW gdT) (e2 (getW gdT) (eVar 3) (eVar 4)) (eVar 5)), (e2 (getW gdT) (eVar 0) (e2 (addW false) (eVar 5) (eC (.int 1)))), (e2 subW (eVar 1) (eC (.int 1))), (eOr (eVar 2) (e2 eqW (eVar 4) (eC (.str ("keep" : Str)))))]))) (sRet (eC (.bl false))) sNil))
  (sRet (eC (.bl true)))))))))
noncomputable def b__law_parts (C : Fn → Cal) : SM := (sSeq (sSet 1 (eN (lstN true) []))
  (sSeq (sSet 2 (e2 (getW gdT) (eCall (C .f__law_shapes) []) (e2 (getW gdT) (eVar 0) (eC (.int 0)))))
  (sSeq (sFor (iRange1 (eN lenN [(eVar 2)])) (gVar 3) (sIf (tB (e2 eqW (e2 (getW gdT) (eVar 2) (eVar 3)) (eC (.str ("e" : Str))))) (sExpr (eMeth "list" appendM (eVar 1) [(e2 (getW gdT) (eVar 0) (e2 (addW false) (eVar 3) (eC (.int 1))))])) (sIf (tB (e2 (inW gdT) (e2 (getW gdT) (eVar 2) (eVar 3)) (eC (.str ("lda" : Str))))) (sExpr (eMeth "list" extM (eVar 1) [(e2 (getW gdT) (eVar 0) (e2 (addW false) (eVar 3) (eC (.int 1))))])) sNil)))
  (sRet (eVar 1)))))
noncomputable def b__law_walk (C : Fn → Cal) : SM := (sSeq (sSet 2 (eN (lstN true) [(eN tupN [(eVar 1), (eVar 0)])]))
  (sSeq (sSet 3 (eCall (C .f__law_parts) [(eVar 0)]))
  (sSeq (sFor (iRange1 (eN lenN [(eVar 3)])) (gVar 4) (sExpr (eMeth "list" extM (eVar 2) [(eCall (C .f__law_walk) [(e2 (getW gdT) (eVar 3) (eVar 4)), (e2 (addW false) (eVar 1) (eN tupN [(eVar 4)]))])])))
  (sRet (eVar 2)))))
noncomputable def b__law_with (C : Fn → Cal) : SM := (sSeq (sIf (tB (e2 eqW (eN lenN [(eVar 1)]) (eC (.int 0)))) (sRet (eVar 2)) sNil)
  (sSeq (sSet 3 (eN (listN true) [(eVar 0)]))
  (sSeq (sSet 4 (e2 (getW gdT) (eCall (C .f__law_shapes) []) (e2 (getW gdT) (eVar 0) (eC (.int 0)))))
  (sSeq (sSet 5 (e2 (getW gdT) (eVar 1) (eC (.int 0))))
  (sSeq (sFor (iRange1 (eN lenN [(eVar 4)])) (gVar 6) (sSeq (sSet 7 (eN (lstN true) []))
  (sSeq (sIf (tB (e2 eqW (e2 (getW gdT) (eVar 4) (eVar 6)) (eC (.str ("e" : Str))))) (sSet 7 (eN (lstN true) [(e2 (getW gdT) (eVar 0) (e2 (addW false) (eVar 6) (eC (.int 1))))])) (sIf (tB (e2 (inW gdT) (e2 (getW gdT) (eVar 4) (eVar 6)) (eC (.str ("lda" : Str))))) (sSet 7 (eN (listN true) [(e2 (getW gdT) (eVar 0) (e2 (addW false) (eVar 6) (eC (.int 1))))])) sNil))
  (sSeq (sIf (tAnd (tB (e2 leW (eC (.int 0)) (eVar 5))) (tB (e2 ltW (eVar 5) (eN lenN [(eVar 7)])))) (sSeq (sSetIx setW (eVar 7) (eVar 5) (eCall (C .f__law_with) [(e2 (getW gdT) (eVar 7) (eVar 5)), (eCut false (eVar 1) (some (eC (.int 1))) none), (eVar 2)]))
  (sSetIx setW (eVar 3) (e2 (addW false) (eVar 6) (eC (.int 1))) (e2 (getW gdT) (eN (lstN false) [(eN tupleN [(eVar 7)]), (e2 (getW gdT) (eVar 7) (eC (.int 0)))]) (eN intN [(e2 eqW (e2 (getW gdT) (eVar 4) (eVar 6)) (eC (.str ("e" : Str))))])))) sNil)
  (sSet 5 (e2 subW (eVar 5) (eN lenN [(eVar 7)])))))))
  (sRet (eN tupleN [(eVar 3)])))))))
noncomputable def b__law_texts (C : Fn → Cal) : SM := (sRet (eMeth "str" joinM (eC (.str (", " : Str))) [(eLc false (iE (eVar 0)) [1] (gVar 1) tYesM (eCall (C .f__law_text) [(eVar 1)]))]))
noncomputable def b__law_text (C : Fn → Cal) : SM := (sSeq (sSet 1 (e2 (getW gdT) (eVar 0) (eC (.int 0))))
  (sSeq (sIf (tB (e2 (inW gdT) (eVar 1) (eN (lstN false) [(eC (.str ("nothing" : Str))), (eC (.str ("here" : Str))), (eC (.str ("fall" : Str)))]))) (sRet (eVar 1)) sNil)
  (sSeq (sIf (tB (e2 (inW gdT) (eVar 1) (eN (lstN false) [(eC (.str ("number" : Str))), (eC (.str ("name" : Str)))]))) (sRet (eN strN [(e2 (getW gdT) (eVar 0) (eC (.int 1)))])) sNil)
  (sSeq (sIf (tB (e2 eqW (eVar 1) (eC (.str ("text" : Str))))) (sRet (e2 (addW false) (e2 (addW false) (eC (.str ("'" : Str))) (e2 (getW gdT) (eVar 0) (eC (.int 1)))) (eC (.str ("'" : Str))))) sNil)
  (sSeq (sIf (tB (e2 eqW (eVar 1) (eC (.str ("list" : Str))))) (sRet (e2 (addW false) (e2 (addW false) (eC (.str ("[" : Str))) (eCall (C .f__law_texts) [(e2 (getW gdT) (eVar 0) (eC (.int 1)))])) (eC (.str ("]" : Str))))) sNil)
  (sSeq (sIf (tB (e2 (inW gdT) (eVar 1) (eN (lstN false) [(eC (.str ("op" : Str))), (eC (.str ("test" : Str)))]))) (sRet (e2 (addW false) (e2 (addW false) (e2 (addW false) (e2 (addW false) (e2 (addW false) (e2 (addW false) (eC (.str ("(" : Str))) (eCall (C .f__law_text) [(e2 (getW gdT) (eVar 0) (eC (.int 2)))])) (eC (.str (" " : Str)))) (e2 (getW gdT) (eVar 0) (eC (.int 1)))) (eC (.str (" " : Str)))) (eCall (C .f__law_text) [(e2 (getW gdT) (eVar 0) (eC (.int 3)))])) (eC (.str (")" : Str))))) sNil)
  (sSeq (sIf (tB (e2 (inW gdT) (eVar 1) (eN (lstN false) [(eC (.str ("or" : Str))), (eC (.str ("and" : Str))), (eC (.str ("to" : Str)))]))) (sSeq (sSet 2 (e2 (getW gdT) (eN (dicN false) (flat [((eC (.str ("or" : Str))), (eC (.str (" | " : Str)))), ((eC (.str ("and" : Str))), (eC (.str (" & " : Str)))), ((eC (.str ("to" : Str))), (eC (.str (" to " : Str))))])) (eVar 1)))
  (sRet (e2 (addW false) (e2 (addW false) (e2 (addW false) (e2 (addW false) (eC (.str ("(" : Str))) (eCall (C .f__law_text) [(e2 (getW gdT) (eVar 0) (eC (.int 1)))])) (eVar 2)) (eCall (C .f__law_text) [(e2 (getW gdT) (eVar 0) (eC (.int 2)))])) (eC (.str (")" : Str)))))) sNil)
  (sSeq (sIf (tB (e2 (inW gdT) (eVar 1) (eN (lstN false) [(eC (.str ("give" : Str))), (eC (.str ("lend" : Str)))]))) (sRet (e2 (addW false) (e2 (addW false) (e2 (addW false) (e2 (addW false) (eC (.str ("(" : Str))) (e2 (getW gdT) (eVar 0) (eC (.int 1)))) (e2 (getW gdT) (eN (dicN false) (flat [((eC (.str ("give" : Str))), (eC (.str (" := " : Str)))), ((eC (.str ("lend" : Str))), (eC (.str (" <- " : Str))))])) (eVar 1))) (eCall (C .f__law_text) [(e2 (getW gdT) (eVar 0) (eC (.int 2)))])) (eC (.str (")" : Str))))) sNil)
  (sSeq (sIf (tB (e2 eqW (eVar 1) (eC (.str ("most" : Str))))) (sRet (e2 (addW false) (e2 (addW false) (e2 (addW false) (e2 (addW false) (eC (.str ("most(" : Str))) (eN strN [(e2 (getW gdT) (eVar 0) (eC (.int 1)))])) (eC (.str (", " : Str)))) (eCall (C .f__law_text) [(e2 (getW gdT) (eVar 0) (eC (.int 2)))])) (eC (.str (")" : Str))))) sNil)
  (sSeq (sIf (tB (e2 eqW (eVar 1) (eC (.str ("do" : Str))))) (sRet (e2 (addW false) (e2 (addW false) (eC (.str ("do(" : Str))) (eCall (C .f__law_texts) [(e2 (getW gdT) (eVar 0) (eC (.int 1)))])) (eC (.str (")" : Str))))) sNil)
  (sSeq (sIf (tB (e2 eqW (eVar 1) (eC (.str ("call" : Str))))) (sRet (e2 (addW false) (e2 (addW false) (eC (.str ("call(" : Str))) (eCall (C .f__law_texts) [(e2 (addW false) (eN (lstN false) [(e2 (getW gdT) (eVar 0) (eC (.int 1)))]) (eN (listN false) [(e2 (getW gdT) (eVar 0) (eC (.int 2)))]))])) (eC (.str (")" : Str))))) sNil)
  (sRet (e2 (addW false) (e2 (addW false) (e2 (addW false) (eVar 1) (eC (.str ("(" : Str)))) (eCall (C .f__law_texts) [(eCut false (eVar 0) (some (eC (.int 1))) none)])) (eC (.str (")" : Str))))))))))))))))
noncomputable def b__law_odd (C : Fn → Cal) : SM := (sSeq (sSet 1 (eCall (C .f__law_draw) [(eVar 0), (eC (.int 5))]))
  (sSeq (sSet 2 (eCall (C .f__law_draw) [(eVar 0), (eC (.int 60))]))
  (sSeq (sSet 3 (eN tupN [(eC (.str ("here" : Str)))]))
  (sSeq (sIf (tB (e2 eqW (eVar 1) (eC (.int 0)))) (sSeq (sSet 4 (eN (lstN false) [(eN tupN [(eC (.str ("number" : Str))), (e2 subW (eCall (C .f__law_draw) [(eVar 0), (eC (.int 4001))]) (eC (.int 2000)))]), (eN tupN [(eC (.str ("name" : Str))), (eCall (C .f__law_letters) [(eVar 0), (e2 fdivW (eVar 2) (eC (.int 5)))])]), (eN tupN [(eC (.str ("most" : Str))), (e2 subW (eVar 2) (eC (.int 29))), (eVar 3)])]))
  (sSeq (sSet 4 (e2 (addW false) (eVar 4) (eN (lstN false) [(eN tupN [(eC (.str ("name" : Str))), (e2 (getW gdT) (eCall (C .f__law_words) []) (eCall (C .f__law_draw) [(eVar 0), (eC (.int 36))]))]), (eN tupN [(eC (.str ("text" : Str))), (e2 (mulW false) (eC (.str ("b" : Str))) (e2 fdivW (eVar 2) (eC (.int 2))))]), (eN tupN [(eC (.str ("text" : Str))), (eC (.str ("a!'c" : Str)))])])))
  (sSet 4 (e2 (addW false) (eVar 4) (eN (lstN false) [(eN tupN [(eC (.str ("text" : Str))), (eC (.str ("a\nc" : Str)))]), (eN tupN [(eC (.str ("text" : Str))), (eC (.str (" ~" : Str)))]), (eN tupN [(eC (.str ("text" : Str))), (eC (.str ("" : Str)))]), (eN tupN [(eC (.str ("number" : Str))), (eC (.int 999))]), (eN tupN [(eC (.str ("number" : Str))), (e1 negW (eC (.int 1000)))]), (eN tupN [(eC (.str ("most" : Str))), (eC (.int 20)), (eN (lstN false) [(eVar 3)])])]))))) (sIf (tB (e2 eqW (eVar 1) (eC (.int 1)))) (sSeq (sSet 4 (eN (lstN false) [(eC (.non)), (eC (.bl true)), (eC (.int 7)), (eC (.str ("here" : Str))), (eN tupN []), (eDict0 false), (eN (dicN false) (flat [((eC (.int 0)), (eVar 3))])), (eN tupN [(eC (.str ("plus" : Str))), (eVar 3), (eVar 3)]), (eN tupN [(eC (.str ("nothing" : Str))), (eVar 3)]), (eN tupN [(eC (.str ("number" : Str)))])]))
  (sSet 4 (e2 (addW false) (eVar 4) (eN (lstN false) [(eN tupN [(eVar 3)]), (eN tupN [(eN (lstN false) [])]), (eN tupN [(eC (.non)), (eVar 3)]), (eN tupN [(eC (.str ("number" : Str))), (eC (.bl true))]), (eN tupN [(eC (.str ("number" : Str))), (eC (.str ("1" : Str)))]), (eN tupN [(eC (.str ("number" : Str))), (eC (.non))]), (eN tupN [(eC (.str ("Here" : Str)))])])))) (sIf (tB (e2 eqW (eVar 1) (eC (.int 2)))) (sSeq (sSet 4 (eN (lstN false) [(eN tupN [(eC (.str ("text" : Str))), (eC (.int 5))]), (eN tupN [(eC (.str ("text" : Str))), (eC (.non))]), (eN tupN [(eC (.str ("name" : Str))), (eC (.str ("" : Str)))]), (eN tupN [(eC (.str ("name" : Str))), (eC (.str ("A" : Str)))]), (eN tupN [(eC (.str ("name" : Str))), (eC (.str ("a1" : Str)))]), (eN tupN [(eC (.str ("name" : Str))), (eC (.int 3))]), (eN tupN [(eC (.str ("name" : Str))), (eC (.str ("aB" : Str)))])]))
  (sSeq (sSet 4 (e2 (addW false) (eVar 4) (eN (lstN false) [(eN tupN [(eC (.str ("most" : Str))), (eC (.bl true)), (eVar 3)]), (eN tupN [(eC (.str ("most" : Str))), (eVar 3)]), (eN tupN [(eC (.str ("most" : Str))), (eC (.str ("2" : Str))), (eVar 3)]), (eN tupN [(eC (.str ("most" : Str))), (eVar 3), (eC (.int 2))]), (eN tupN [(eC (.str ("name" : Str)))])])))
  (sSeq (sSet 4 (e2 (addW false) (eVar 4) (eN (lstN false) [(eN tupN [(eC (.str ("list" : Str))), (e2 (mulW false) (eN (lstN false) [(eVar 3)]) (eC (.int 4)))]), (eN (lstN false) [(eC (.str ("list" : Str))), (e2 (mulW false) (eN (lstN false) [(eVar 3)]) (eC (.int 5)))]), (eN tupN [(eC (.str ("do" : Str))), (eN tupN [])]), (eN tupN [(eC (.str ("do" : Str))), (e2 (mulW false) (eN (lstN false) [(eVar 3)]) (eC (.int 6)))]), (eN tupN [(eC (.str ("do" : Str))), (e2 (mulW false) (eN (lstN false) [(eVar 3)]) (eC (.int 7)))])])))
  (sSet 4 (e2 (addW false) (eVar 4) (eN (lstN false) [(eN tupN [(eC (.str ("call" : Str))), (eVar 3), (eN tupN [])]), (eN tupN [(eC (.str ("call" : Str))), (eVar 3), (e2 (mulW false) (eN (lstN false) [(eVar 3)]) (eC (.int 3)))]), (eN tupN [(eC (.str ("call" : Str))), (eVar 3), (e2 (mulW false) (eN (lstN false) [(eVar 3)]) (eC (.int 4)))]), (eN (lstN false) [(eC (.str ("call" : Str))), (eVar 3)])])))))) (sSeq (sSet 4 (eN (lstN false) [(eN tupN [(eC (.str ("list" : Str))), (eC (.non))]), (eN tupN [(eC (.str ("list" : Str))), (eVar 3)]), (eN tupN [(eC (.str ("do" : Str))), (eVar 3)]), (eN tupN [(eC (.str ("call" : Str))), (eVar 3)]), (eN tupN [(eC (.str ("call" : Str))), (eN (lstN false) [(eVar 3)]), (eVar 3)]), (eN tupN [(eC (.str ("if" : Str))), (eVar 3), (eVar 3)])]))
  (sSeq (sSet 4 (e2 (addW false) (eVar 4) (eN (lstN false) [(eN tupN [(eC (.str ("op" : Str))), (eC (.str ("<" : Str))), (eVar 3), (eVar 3)]), (eN tupN [(eC (.str ("test" : Str))), (eC (.str ("+" : Str))), (eVar 3), (eVar 3)]), (eN tupN [(eC (.str ("op" : Str))), (eC (.str ("//" : Str))), (eVar 3), (eVar 3)]), (eN tupN [(eC (.str ("or" : Str))), (eVar 3)])])))
  (sSeq (sSet 4 (e2 (addW false) (eVar 4) (eN (lstN false) [(eN tupN [(eC (.str ("op" : Str))), (eC (.int 3)), (eVar 3), (eVar 3)]), (eN tupN [(eC (.str ("give" : Str))), (eC (.str ("no" : Str))), (eVar 3)]), (eN tupN [(eC (.str ("give" : Str))), (eVar 3), (eVar 3)]), (eN tupN [(eC (.str ("lend" : Str))), (eC (.str ("" : Str))), (eVar 3)]), (eN tupN [(eC (.str ("fall" : Str)))])])))
  (sSet 4 (e2 (addW false) (eVar 4) (eN (lstN false) [(eN tupN [(eC (.str ("back" : Str))), (eVar 3)]), (eN tupN [(eC (.str ("out" : Str))), (eVar 3)]), (eN tupN [(eC (.str ("keep" : Str))), (eN tupN [(eC (.str ("fall" : Str)))])]), (eN tupN [(eC (.str ("keep" : Str))), (eN tupN [(eC (.str ("back" : Str))), (eVar 3)])]), (eN (lstN false) [(eC (.str ("list" : Str))), (eN (lstN false) [])])])))))))))
  (sRet (e2 (getW gdT) (eVar 4) (e2 modW (eN intN [(eVar 2)]) (eN lenN [(eVar 4)]))))))))
noncomputable def b__law_told (C : Fn → Cal) : SM := (sSeq (sSet 1 (eN tupN [(eC (.str ("none" : Str)))]))
  (sSeq (sTry xsT subT (sSet 1 (eN tupN [(eC (.str ("gave" : Str))), (eCallK (C .f_expression_text) [] [(eVar 0)] 1)])) [(("NoText" : Str), none, fun _ => (sSet 1 (eN tupN [(eC (.str ("text" : Str)))]))), (("NoExpression" : Str), some 2, (sXT 1 [(fC (.str ("raised" : Str))), (fAnd (fIs it_TriedError) (fIs it_ValueError))]))])
  (sRet (eVar 1))))
noncomputable def b_law (C : Fn → Cal) : SM := (sSeq (sSet 1 (eCall (C .f__law_bag) [(eVar 0)]))
  (sSeq (sSet 2 (eCall (C .f__law_draw) [(eVar 1), (eC (.int 60))]))
  (sSeq (sSet 3 (eCall (C .f__law_expression) [(eVar 1), (eN (lstN true) [(e2 (addW false) (eC (.int 1)) (eCall (C .f__law_draw) [(eVar 1), (eC (.int 14))]))]), (e2 (addW false) (eC (.int 1)) (eCall (C .f__law_draw) [(eVar 1), (eC (.int 8))])), (eC (.int 0))]))
  (sSeq (sSet 4 (eN reprN [(eVar 3)]))
  (sSeq (sSet 5 (eCall (C .f_expression_text) [(eVar 3)]))
  (sSeq (sIf (tOr (tNot (tE (eN isiN [(eVar 5), (eC (.ty "str"))]))) (tB (e2 neDW (eVar 5) (eCall (C .f__law_text) [(eVar 3)])))) (sRet (eC (.bl false))) sNil)
  (sSeq (sSet 6 (eCall (C .f__law_walk) [(eVar 3), (eN tupN [])]))
  (sSeq (sSet 7 (eCall (C .f__law_with) [(eVar 3), (e2 (getW gdT) (e2 (getW gdT) (eVar 6) (e2 modW (eN intN [(eVar 2)]) (eN lenN [(eVar 6)]))) (eC (.int 0))), (eCall (C .f__law_odd) [(eVar 1)])]))
  (sSeq (sIf (tE (eCall (C .f__law_is) [(eVar 7), (eC (.int 8)), (eC (.bl false))])) (sSet 8 (eN tupN [(eC (.str ("gave" : Str))), (eCall (C .f__law_text) [(eVar 7)])])) (sSet 8 (eN tupN [(eC (.str ("raised" : Str))), (eC (.bl true))])))
  (sRet (eAnd (e2 eqDW (eCall (C .f__law_told) [(eVar 7)]) (eVar 8)) (eAnd (e2 eqDW (eCall (C .f__law_told) [(eVar 3)]) (eN tupN [(eC (.str ("gave" : Str))), (eVar 5)])) (e2 eqW (eN reprN [(eVar 3)]) (eVar 4))))))))))))))
noncomputable def F : Nat → Fn → Cal
  | 0, _ => fun _ _ => .bad
  | n + 1, f => match f with
    | .f_is_row => runDef 1 1 (b_is_row (F n))
    | .f_is_integer => runDef 3 3 (b_is_integer (F n))
    | .f_is_name => runDef 1 2 (b_is_name (F n))
    | .f_is_character => runDef 1 1 (b_is_character (F n))
    | .f_is_written => runDef 1 2 (b_is_written (F n))
    | .f_is_word => runDef 2 2 (b_is_word (F n))
    | .f_is_plain => runDef 2 2 (b_is_plain (F n))
    | .f_is_row_of_parts => runDef 4 7 (b_is_row_of_parts (F n))
    | .f_is_within => runDef 3 10 (b_is_within (F n))
    | .f_is_expression => runDef 1 1 (b_is_expression (F n))
    | .f_joined => runDef 1 2 (b_joined (F n))
    | .f_pair => runDef 3 3 (b_pair (F n))
    | .f_written => runDef 1 2 (b_written (F n))
    | .f_bracketed => runDef 1 2 (b_bracketed (F n))
    | .f_expression_text => runDef 1 1 (b_expression_text (F n))
    | .f__law_bag => runDefO 1 3 (b__law_bag (F n))
    | .f__law_mixed => runDef 2 3 (b__law_mixed (F n))
    | .f__law_draw => runDef 2 6 (b__law_draw (F n))
    | .f__law_words => runDef 0 1 (b__law_words (F n))
    | .f__law_letters => runDef 2 3 (b__law_letters (F n))
    | .f__law_name => runDef 1 4 (b__law_name (F n))
    | .f__law_written => runDef 1 4 (b__law_written (F n))
    | .f__law_shapes => runDef 0 4 (b__law_shapes (F n))
    | .f__law_leaf => runDef 2 3 (b__law_leaf (F n))
    | .f__law_item => runDef 5 9 (b__law_item (F n))
    | .f__law_expression => runDef 4 9 (b__law_expression (F n))
    | .f__law_is_name => runDef 1 2 (b__law_is_name (F n))
    | .f__law_is_text => runDef 1 2 (b__law_is_text (F n))
    | .f__law_is_item => runDef 4 8 (b__law_is_item (F n))
    | .f__law_is => runDef 3 6 (b__law_is (F n))
    | .f__law_parts => runDef 1 4 (b__law_parts (F n))
    | .f__law_walk => runDef 2 5 (b__law_walk (F n))
    | .f__law_with => runDef 3 8 (b__law_with (F n))
    | .f__law_texts => runDef 1 2 (b__law_texts (F n))
    | .f__law_text => runDef 1 3 (b__law_text (F n))
    | .f__law_odd => runDef 1 5 (b__law_odd (F n))
    | .f__law_told => runDef 1 3 (b__law_told (F n))
    | .f_law => runDef 1 9 (b_law (F n))
theorem F_is_row (n : Nat) : F (n + 1) .f_is_row = runDef 1 1 (b_is_row (F n)) := rfl
theorem F_is_integer (n : Nat) : F (n + 1) .f_is_integer = runDef 3 3 (b_is_integer (F n)) := rfl
theorem F_is_name (n : Nat) : F (n + 1) .f_is_name = runDef 1 2 (b_is_name (F n)) := rfl
theorem F_is_character (n : Nat) : F (n + 1) .f_is_character = runDef 1 1 (b_is_character (F n)) := rfl
theorem F_is_written (n : Nat) : F (n + 1) .f_is_written = runDef 1 2 (b_is_written (F n)) := rfl
theorem F_is_word (n : Nat) : F (n + 1) .f_is_word = runDef 2 2 (b_is_word (F n)) := rfl
theorem F_is_plain (n : Nat) : F (n + 1) .f_is_plain = runDef 2 2 (b_is_plain (F n)) := rfl
theorem F_is_row_of_parts (n : Nat) : F (n + 1) .f_is_row_of_parts = runDef 4 7 (b_is_row_of_parts (F n)) := rfl
theorem F_is_within (n : Nat) : F (n + 1) .f_is_within = runDef 3 10 (b_is_within (F n)) := rfl
theorem F_is_expression (n : Nat) : F (n + 1) .f_is_expression = runDef 1 1 (b_is_expression (F n)) := rfl
theorem F_joined (n : Nat) : F (n + 1) .f_joined = runDef 1 2 (b_joined (F n)) := rfl
theorem F_pair (n : Nat) : F (n + 1) .f_pair = runDef 3 3 (b_pair (F n)) := rfl
theorem F_written (n : Nat) : F (n + 1) .f_written = runDef 1 2 (b_written (F n)) := rfl
theorem F_bracketed (n : Nat) : F (n + 1) .f_bracketed = runDef 1 2 (b_bracketed (F n)) := rfl
theorem F_expression_text (n : Nat) : F (n + 1) .f_expression_text = runDef 1 1 (b_expression_text (F n)) := rfl
theorem F__law_bag (n : Nat) : F (n + 1) .f__law_bag = runDefO 1 3 (b__law_bag (F n)) := rfl
theorem F__law_mixed (n : Nat) : F (n + 1) .f__law_mixed = runDef 2 3 (b__law_mixed (F n)) := rfl
theorem F__law_draw (n : Nat) : F (n + 1) .f__law_draw = runDef 2 6 (b__law_draw (F n)) := rfl
theorem F__law_words (n : Nat) : F (n + 1) .f__law_words = runDef 0 1 (b__law_words (F n)) := rfl
theorem F__law_letters (n : Nat) : F (n + 1) .f__law_letters = runDef 2 3 (b__law_letters (F n)) := rfl
theorem F__law_name (n : Nat) : F (n + 1) .f__law_name = runDef 1 4 (b__law_name (F n)) := rfl
theorem F__law_written (n : Nat) : F (n + 1) .f__law_written = runDef 1 4 (b__law_written (F n)) := rfl
theorem F__law_shapes (n : Nat) : F (n + 1) .f__law_shapes = runDef 0 4 (b__law_shapes (F n)) := rfl
theorem F__law_leaf (n : Nat) : F (n + 1) .f__law_leaf = runDef 2 3 (b__law_leaf (F n)) := rfl
theorem F__law_item (n : Nat) : F (n + 1) .f__law_item = runDef 5 9 (b__law_item (F n)) := rfl
theorem F__law_expression (n : Nat) : F (n + 1) .f__law_expression = runDef 4 9 (b__law_expression (F n)) := rfl
theorem F__law_is_name (n : Nat) : F (n + 1) .f__law_is_name = runDef 1 2 (b__law_is_name (F n)) := rfl
theorem F__law_is_text (n : Nat) : F (n + 1) .f__law_is_text = runDef 1 2 (b__law_is_text (F n)) := rfl
theorem F__law_is_item (n : Nat) : F (n + 1) .f__law_is_item = runDef 4 8 (b__law_is_item (F n)) := rfl
theorem F__law_is (n : Nat) : F (n + 1) .f__law_is = runDef 3 6 (b__law_is (F n)) := rfl
theorem F__law_parts (n : Nat) : F (n + 1) .f__law_parts = runDef 1 4 (b__law_parts (F n)) := rfl
theorem F__law_walk (n : Nat) : F (n + 1) .f__law_walk = runDef 2 5 (b__law_walk (F n)) := rfl
theorem F__law_with (n : Nat) : F (n + 1) .f__law_with = runDef 3 8 (b__law_with (F n)) := rfl
theorem F__law_texts (n : Nat) : F (n + 1) .f__law_texts = runDef 1 2 (b__law_texts (F n)) := rfl
theorem F__law_text (n : Nat) : F (n + 1) .f__law_text = runDef 1 3 (b__law_text (F n)) := rfl
theorem F__law_odd (n : Nat) : F (n + 1) .f__law_odd = runDef 1 5 (b__law_odd (F n)) := rfl
theorem F__law_told (n : Nat) : F (n + 1) .f__law_told = runDef 1 3 (b__law_told (F n)) := rfl
theorem F_law (n : Nat) : F (n + 1) .f_law = runDef 1 9 (b_law (F n)) := rfl
end Sh

set_option Elab.async false
set_option linter.all false
set_option maxRecDepth 100000
set_option maxHeartbeats 4000000
/-! each def's body has its model, printed by mk.py -/
namespace Sh
open PySem PySem.Spec PyProof.Rows L2
/-- the facts of the top -/
structure SF (K : PySem.W.Frag) (mg : Str → Option Value) (w : World) : Prop where
  gd : GdOk K mg w gdT
  cf : CfOk K mg cfT
  b_ValueError : mg ("ValueError" : Str) = none
  b_abs : mg ("abs" : Str) = none
  b_all : mg ("all" : Str) = none
  b_bool : mg ("bool" : Str) = none
  b_int : mg ("int" : Str) = none
  b_isinstance : mg ("isinstance" : Str) = none
  b_len : mg ("len" : Str) = none
  b_list : mg ("list" : Str) = none
  b_max : mg ("max" : Str) = none
  b_min : mg ("min" : Str) = none
  b_ord : mg ("ord" : Str) = none
  b_range : mg ("range" : Str) = none
  b_repr : mg ("repr" : Str) = none
  b_str : mg ("str" : Str) = none
  b_tuple : mg ("tuple" : Str) = none
  g_ALONE : GV K mg ("ALONE" : Str) (c_ALONE)
  g_BETWEEN : GV K mg ("BETWEEN" : Str) (.glo ("BETWEEN" : Str))
  g_DEEPEST : GV K mg ("DEEPEST" : Str) (c_DEEPEST)
  g_LEAVING : GV K mg ("LEAVING" : Str) (c_LEAVING)
  g_OPERATORS : GV K mg ("OPERATORS" : Str) (c_OPERATORS)
  g_ROWS : GV K mg ("ROWS" : Str) (c_ROWS)
  g_SHAPES : GV K mg ("SHAPES" : Str) (.glo ("SHAPES" : Str))
  g_TESTS : GV K mg ("TESTS" : Str) (c_TESTS)
  g_WORDS : GV K mg ("WORDS" : Str) (c_WORDS)
  r_NoExpression : RaOk K mg ("NoExpression" : Str)
  x_NoExpression : ∃ C, mg ("NoExpression" : Str) = some (.ref C)
  x_NoText : ∃ C, mg ("NoText" : Str) = some (.ref C)
  x_TriedError : ∃ C, mg ("TriedError" : Str) = some (.ref C)
  ex : ExOk K mg xsT csT subT
  i_TriedError : IsOk K mg (clV mg ("TriedError" : Str)) it_TriedError
  i_ValueError : IsOk K mg (.type "ValueError") it_ValueError
/-- .. and every def keeps its promise at depth k -/
structure TT (P : Program) (w : World) (K : PySem.W.Frag) (mg : Str → Option Value) (base : Heap) (k : Nat) (C : Fn → Cal) : Prop extends SF K mg w where
  f__law_bag : GlOk P w K mg base k ("_law_bag" : Str) ["script"] (C .f__law_bag)
  f__law_draw : GlOk P w K mg base k ("_law_draw" : Str) ["bag", "limit"] (C .f__law_draw)
  f__law_expression : GlOk P w K mg base k ("_law_expression" : Str) ["bag", "room", "depth", "kept"] (C .f__law_expression)
  f__law_is : GlOk P w K mg base k ("_law_is" : Str) ["tree", "room", "kept"] (C .f__law_is)
  f__law_is_item : GlOk P w K mg base k ("_law_is_item" : Str) ["letter", "item", "room", "kept"] (C .f__law_is_item)
  f__law_is_name : GlOk P w K mg base k ("_law_is_name" : Str) ["tree"] (C .f__law_is_name)
  f__law_is_text : GlOk P w K mg base k ("_law_is_text" : Str) ["tree"] (C .f__law_is_text)
  f__law_item : GlOk P w K mg base k ("_law_item" : Str) ["bag", "letter", "room", "depth", "kept"] (C .f__law_item)
  f__law_leaf : GlOk P w K mg base k ("_law_leaf" : Str) ["bag", "kept"] (C .f__law_leaf)
  f__law_letters : GlOk P w K mg base k ("_law_letters" : Str) ["bag", "size"] (C .f__law_letters)
  f__law_mixed : GlOk P w K mg base k ("_law_mixed" : Str) ["cell", "turn"] (C .f__law_mixed)
  f__law_name : GlOk P w K mg base k ("_law_name" : Str) ["bag"] (C .f__law_name)
  f__law_odd : GlOk P w K mg base k ("_law_odd" : Str) ["bag"] (C .f__law_odd)
  f__law_parts : GlOk P w K mg base k ("_law_parts" : Str) ["tree"] (C .f__law_parts)
  f__law_shapes : GlOk P w K mg base k ("_law_shapes" : Str) [] (C .f__law_shapes)
  f__law_text : GlOk P w K mg base k ("_law_text" : Str) ["tree"] (C .f__law_text)
  f__law_texts : GlOk P w K mg base k ("_law_texts" : Str) ["parts"] (C .f__law_texts)
  f__law_told : GlOk P w K mg base k ("_law_told" : Str) ["tree"] (C .f__law_told)
  f__law_walk : GlOk P w K mg base k ("_law_walk" : Str) ["tree", "way"] (C .f__law_walk)
  f__law_with : GlOk P w K mg base k ("_law_with" : Str) ["tree", "way", "piece"] (C .f__law_with)
  f__law_words : GlOk P w K mg base k ("_law_words" : Str) [] (C .f__law_words)
  f__law_written : GlOk P w K mg base k ("_law_written" : Str) ["bag"] (C .f__law_written)
  f_bracketed : GlOk P w K mg base k ("bracketed" : Str) ["expression"] (C .f_bracketed)
  f_expression_text : GlOk P w K mg base k ("expression_text" : Str) ["expression"] (C .f_expression_text)
  f_is_character : GlOk P w K mg base k ("is_character" : Str) ["value"] (C .f_is_character)
  f_is_expression : GlOk P w K mg base k ("is_expression" : Str) ["value"] (C .f_is_expression)
  f_is_integer : GlOk P w K mg base k ("is_integer" : Str) ["value", "low", "high"] (C .f_is_integer)
  f_is_name : GlOk P w K mg base k ("is_name" : Str) ["value"] (C .f_is_name)
  f_is_plain : GlOk P w K mg base k ("is_plain" : Str) ["letter", "value"] (C .f_is_plain)
  f_is_row : GlOk P w K mg base k ("is_row" : Str) ["value"] (C .f_is_row)
  f_is_row_of_parts : GlOk P w K mg base k ("is_row_of_parts" : Str) ["letter", "value", "room", "kept"] (C .f_is_row_of_parts)
  f_is_within : GlOk P w K mg base k ("is_within" : Str) ["value", "room", "kept"] (C .f_is_within)
  f_is_word : GlOk P w K mg base k ("is_word" : Str) ["value", "words"] (C .f_is_word)
  f_is_written : GlOk P w K mg base k ("is_written" : Str) ["value"] (C .f_is_written)
  f_joined : GlOk P w K mg base k ("joined" : Str) ["parts"] (C .f_joined)
  f_pair : GlOk P w K mg base k ("pair" : Str) ["one", "sign", "other"] (C .f_pair)
  f_written : GlOk P w K mg base k ("written" : Str) ["expression"] (C .f_written)
  k_expression_text_0 : KwOk P w K mg base k ("expression_text" : Str) ["expression"] ["expression"] (C .f_expression_text)
abbrev N_is_row : List Str := ["value"]
theorem sc_is_row : FnScope N_is_row ["value"] (defScope s_is_row) := ⟨rfl, rfl, rfl, by decide +kernel, rfl, by decide +kernel, by decide +kernel⟩
theorem d_is_row {P : Program} {w : World} {K : PySem.W.Frag} {mg : Str → Option Value} {base : Heap} {k : Nat} {C : Fn → Cal} (T : TT P w K mg base k C) : Bod P w K mg base (k + 1) N_is_row ("is_row" : Str) (defScope s_is_row) (defBody s_is_row) (b_is_row C) := fun f cd A outer s H E hr => by
  have hr0 : Room k (dX P w K mg base N_is_row ("is_row" : Str) (defScope s_is_row) f cd A outer s H E).A := hr.mono (Nat.le_succ k)
  exact (ms_one (ms_ret (m_callB snd_isi call_isiM rfl T.b_isinstance boot_isinstance (ma_cons (m_var (pv 0)) (ma_cons (m_tup (ma_cons (m_ty rfl T.b_list boot_list) (ma_cons (m_ty rfl T.b_tuple boot_tuple) ma_nil))) ma_nil)))))
abbrev N_is_integer : List Str := ["value", "low", "high"]
theorem sc_is_integer : FnScope N_is_integer ["value", "low", "high"] (defScope s_is_integer) := ⟨rfl, rfl, rfl, by decide +kernel, rfl, by decide +kernel, by decide +kernel⟩
theorem d_is_integer {P : Program} {w : World} {K : PySem.W.Frag} {mg : Str → Option Value} {base : Heap} {k : Nat} {C : Fn → Cal} (T : TT P w K mg base k C) : Bod P w K mg base (k + 1) N_is_integer ("is_integer" : Str) (defScope s_is_integer) (defBody s_is_integer) (b_is_integer C) := fun f cd A outer s H E hr => by
  have hr0 : Room k (dX P w K mg base N_is_integer ("is_integer" : Str) (defScope s_is_integer) f cd A outer s H E).A := hr.mono (Nat.le_succ k)
  exact (ms_one (ms_ret (m_and (m_callB snd_isi call_isiM rfl T.b_isinstance boot_isinstance (ma_cons (m_var (pv 0)) (ma_cons (m_ty rfl T.b_int boot_int) ma_nil))) (m_and (m_not (m_callB snd_isi call_isiM rfl T.b_isinstance boot_isinstance (ma_cons (m_var (pv 0)) (ma_cons (m_ty rfl T.b_bool boot_bool) ma_nil)))) (m_one (m_chain op_le op_le snd_cmp snd_cmp (m_var (pv 1)) (m_var (pv 0)) (m_var (pv 2))))))))
abbrev N_is_name : List Str := ["value", "letter"]
theorem sc_is_name : FnScope N_is_name ["value"] (defScope s_is_name) := ⟨rfl, rfl, rfl, by decide +kernel, rfl, by decide +kernel, by decide +kernel⟩
theorem d_is_name {P : Program} {w : World} {K : PySem.W.Frag} {mg : Str → Option Value} {base : Heap} {k : Nat} {C : Fn → Cal} (T : TT P w K mg base k C) : Bod P w K mg base (k + 1) N_is_name ("is_name" : Str) (defScope s_is_name) (defBody s_is_name) (b_is_name C) := fun f cd A outer s H E hr => by
  have hr0 : Room k (dX P w K mg base N_is_name ("is_name" : Str) (defScope s_is_name) f cd A outer s H E).A := hr.mono (Nat.le_succ k)
  exact (ms_cons (ms_if (mw_pt (mw_or (mt_not (mt_truth (m_callB snd_isi call_isiM rfl T.b_isinstance boot_isinstance (ma_cons (m_var (pv 0)) (ma_cons (m_ty rfl T.b_str boot_str) ma_nil))))) (mw_or1 (mt_not (mt_chain op_le op_le snd_cmp snd_cmp m_int (m_callB snd_len call_lenM rfl T.b_len boot_len (ma_cons (m_var (pv 0)) ma_nil)) m_int))))) (ms_one (ms_ret m_bl)) ms_nil)
  (ms_cons (ms_for (L2.passes_of rfl) rfl (mi_any (m_var (pv 0))) (mg_name (i := 1) sc_is_name.nd rfl (by first | exact .inl rfl | exact .inr rfl)) (ms_one (ms_if (mt_not (mt_chain op_le op_le snd_cmp snd_cmp m_int (m_callB snd_ord call_ord rfl T.b_ord boot_ord (ma_cons (m_var (pv 1)) ma_nil)) m_int)) (ms_one (ms_ret m_bl)) ms_nil)))
  (ms_one (ms_ret (m_cmp (op_notInM (hu_of hr)) (snd_notIn T.gd) (m_var (pv 0)) (m_gv T.g_WORDS rfl) (by rfl))))))
abbrev N_is_character : List Str := ["value"]
theorem sc_is_character : FnScope N_is_character ["value"] (defScope s_is_character) := ⟨rfl, rfl, rfl, by decide +kernel, rfl, by decide +kernel, by decide +kernel⟩
theorem d_is_character {P : Program} {w : World} {K : PySem.W.Frag} {mg : Str → Option Value} {base : Heap} {k : Nat} {C : Fn → Cal} (T : TT P w K mg base k C) : Bod P w K mg base (k + 1) N_is_character ("is_character" : Str) (defScope s_is_character) (defBody s_is_character) (b_is_character C) := fun f cd A outer s H E hr => by
  have hr0 : Room k (dX P w K mg base N_is_character ("is_character" : Str) (defScope s_is_character) f cd A outer s H E).A := hr.mono (Nat.le_succ k)
  exact (ms_one (ms_ret (m_and (m_chain op_le op_le snd_cmp snd_cmp m_int (m_callB snd_ord call_ord rfl T.b_ord boot_ord (ma_cons (m_var (pv 0)) ma_nil)) m_int) (m_and (m_cmp op_ne snd_ne (m_callB snd_ord call_ord rfl T.b_ord boot_ord (ma_cons (m_var (pv 0)) ma_nil)) m_int (by rfl)) (m_one (m_cmp op_ne snd_ne (m_callB snd_ord call_ord rfl T.b_ord boot_ord (ma_cons (m_var (pv 0)) ma_nil)) m_int (by rfl)))))))
abbrev N_is_written : List Str := ["value", "character"]
theorem sc_is_written : FnScope N_is_written ["value"] (defScope s_is_written) := ⟨rfl, rfl, rfl, by decide +kernel, rfl, by decide +kernel, by decide +kernel⟩
theorem d_is_written {P : Program} {w : World} {K : PySem.W.Frag} {mg : Str → Option Value} {base : Heap} {k : Nat} {C : Fn → Cal} (T : TT P w K mg base k C) : Bod P w K mg base (k + 1) N_is_written ("is_written" : Str) (defScope s_is_written) (defBody s_is_written) (b_is_written C) := fun f cd A outer s H E hr => by
  have hr0 : Room k (dX P w K mg base N_is_written ("is_written" : Str) (defScope s_is_written) f cd A outer s H E).A := hr.mono (Nat.le_succ k)
  exact (ms_cons (ms_if (mw_pt (mw_or (mt_not (mt_truth (m_callB snd_isi call_isiM rfl T.b_isinstance boot_isinstance (ma_cons (m_var (pv 0)) (ma_cons (m_ty rfl T.b_str boot_str) ma_nil))))) (mw_or1 (mt_cmp op_gt snd_cmp (m_callB snd_len call_lenM rfl T.b_len boot_len (ma_cons (m_var (pv 0)) ma_nil)) m_int (by rfl))))) (ms_one (ms_ret m_bl)) ms_nil)
  (ms_cons (ms_for (L2.passes_of rfl) rfl (mi_any (m_var (pv 0))) (mg_name (i := 1) sc_is_written.nd rfl (by first | exact .inl rfl | exact .inr rfl)) (ms_one (ms_if (mt_not (mt_truth (m_call T.f_is_character hr0 (L2.takes_of rfl rfl rfl rfl) rfl (ma_cons (m_var (pv 1)) ma_nil)))) (ms_one (ms_ret m_bl)) ms_nil)))
  (ms_one (ms_ret m_bl))))
abbrev N_is_word : List Str := ["value", "words"]
theorem sc_is_word : FnScope N_is_word ["value", "words"] (defScope s_is_word) := ⟨rfl, rfl, rfl, by decide +kernel, rfl, by decide +kernel, by decide +kernel⟩
theorem d_is_word {P : Program} {w : World} {K : PySem.W.Frag} {mg : Str → Option Value} {base : Heap} {k : Nat} {C : Fn → Cal} (T : TT P w K mg base k C) : Bod P w K mg base (k + 1) N_is_word ("is_word" : Str) (defScope s_is_word) (defBody s_is_word) (b_is_word C) := fun f cd A outer s H E hr => by
  have hr0 : Room k (dX P w K mg base N_is_word ("is_word" : Str) (defScope s_is_word) f cd A outer s H E).A := hr.mono (Nat.le_succ k)
  exact (ms_one (ms_ret (m_and (m_callB snd_isi call_isiM rfl T.b_isinstance boot_isinstance (ma_cons (m_var (pv 0)) (ma_cons (m_ty rfl T.b_str boot_str) ma_nil))) (m_one (m_cmp (op_inM (hu_of hr)) (snd_in T.gd) (m_var (pv 0)) (m_var (pv 1)) (by rfl))))))
abbrev N_is_plain : List Str := ["letter", "value"]
theorem sc_is_plain : FnScope N_is_plain ["letter", "value"] (defScope s_is_plain) := ⟨rfl, rfl, rfl, by decide +kernel, rfl, by decide +kernel, by decide +kernel⟩
theorem d_is_plain {P : Program} {w : World} {K : PySem.W.Frag} {mg : Str → Option Value} {base : Heap} {k : Nat} {C : Fn → Cal} (T : TT P w K mg base k C) : Bod P w K mg base (k + 1) N_is_plain ("is_plain" : Str) (defScope s_is_plain) (defBody s_is_plain) (b_is_plain C) := fun f cd A outer s H E hr => by
  have hr0 : Room k (dX P w K mg base N_is_plain ("is_plain" : Str) (defScope s_is_plain) f cd A outer s H E).A := hr.mono (Nat.le_succ k)
  exact (ms_cons (ms_if (mt_cmp op_eq snd_eq (m_var (pv 0)) m_str (by rfl)) (ms_one (ms_ret (m_call T.f_is_integer hr0 (L2.takes_of rfl rfl rfl rfl) rfl (ma_cons (m_var (pv 1)) (ma_cons (m_un un_neg snd_neg m_int) (ma_cons m_int ma_nil)))))) ms_nil)
  (ms_cons (ms_if (mt_cmp op_eq snd_eq (m_var (pv 0)) m_str (by rfl)) (ms_one (ms_ret (m_call T.f_is_integer hr0 (L2.takes_of rfl rfl rfl rfl) rfl (ma_cons (m_var (pv 1)) (ma_cons m_int (ma_cons m_int ma_nil)))))) ms_nil)
  (ms_cons (ms_if (mt_cmp op_eq snd_eq (m_var (pv 0)) m_str (by rfl)) (ms_one (ms_ret (m_call T.f_is_written hr0 (L2.takes_of rfl rfl rfl rfl) rfl (ma_cons (m_var (pv 1)) ma_nil)))) ms_nil)
  (ms_cons (ms_if (mt_cmp op_eq snd_eq (m_var (pv 0)) m_str (by rfl)) (ms_one (ms_ret (m_call T.f_is_name hr0 (L2.takes_of rfl rfl rfl rfl) rfl (ma_cons (m_var (pv 1)) ma_nil)))) ms_nil)
  (ms_cons (ms_if (mt_cmp op_eq snd_eq (m_var (pv 0)) m_str (by rfl)) (ms_one (ms_ret (m_call T.f_is_word hr0 (L2.takes_of rfl rfl rfl rfl) rfl (ma_cons (m_var (pv 1)) (ma_cons (m_gv T.g_OPERATORS rfl) ma_nil))))) ms_nil)
  (ms_one (ms_ret (m_call T.f_is_word hr0 (L2.takes_of rfl rfl rfl rfl) rfl (ma_cons (m_var (pv 1)) (ma_cons (m_gv T.g_TESTS rfl) ma_nil))))))))))
abbrev N_is_row_of_parts : List Str := ["letter", "value", "room", "kept", "low", "high", "part"]
theorem sc_is_row_of_parts : FnScope N_is_row_of_parts ["letter", "value", "room", "kept"] (defScope s_is_row_of_parts) := ⟨rfl, rfl, rfl, by decide +kernel, rfl, by decide +kernel, by decide +kernel⟩
theorem d_is_row_of_parts {P : Program} {w : World} {K : PySem.W.Frag} {mg : Str → Option Value} {base : Heap} {k : Nat} {C : Fn → Cal} (T : TT P w K mg base k C) : Bod P w K mg base (k + 1) N_is_row_of_parts ("is_row_of_parts" : Str) (defScope s_is_row_of_parts) (defBody s_is_row_of_parts) (b_is_row_of_parts C) := fun f cd A outer s H E hr => by
  have hr0 : Room k (dX P w K mg base N_is_row_of_parts ("is_row_of_parts" : Str) (defScope s_is_row_of_parts) f cd A outer s H E).A := hr.mono (Nat.le_succ k)
  exact (ms_cons (ms_if (mt_not (mt_truth (m_call T.f_is_row hr0 (L2.takes_of rfl rfl rfl rfl) rfl (ma_cons (m_var (pv 1)) ma_nil)))) (ms_one (ms_ret m_bl)) ms_nil)
  (ms_cons (ms_asg (m_tup (ma_cons m_int (ma_cons m_int ma_nil))) (mg_row rfl (mgs_cons (i := 4) sc_is_row_of_parts.nd rfl (by first | exact .inl rfl | exact .inr rfl) (mgs_cons (i := 5) sc_is_row_of_parts.nd rfl (by first | exact .inl rfl | exact .inr rfl) mgs_nil))))
  (ms_cons (ms_if (mt_cmp op_eq snd_eq (m_var (pv 0)) m_str (by rfl)) (ms_one (ms_asg (m_tup (ma_cons m_int (ma_cons m_int ma_nil))) (mg_row rfl (mgs_cons (i := 4) sc_is_row_of_parts.nd rfl (by first | exact .inl rfl | exact .inr rfl) (mgs_cons (i := 5) sc_is_row_of_parts.nd rfl (by first | exact .inl rfl | exact .inr rfl) mgs_nil))))) (ms_one (ms_if (mt_cmp op_eq snd_eq (m_var (pv 0)) m_str (by rfl)) (ms_one (ms_set (i := 5) sc_is_row_of_parts.nd rfl (by first | exact .inl rfl | exact .inr rfl) m_int)) ms_nil)))
  (ms_cons (ms_if (mt_not (mt_chain op_le op_le snd_cmp snd_cmp (m_var (pv 4)) (m_callB snd_len call_lenM rfl T.b_len boot_len (ma_cons (m_var (pv 1)) ma_nil)) (m_var (pv 5)))) (ms_one (ms_ret m_bl)) ms_nil)
  (ms_cons (ms_for (L2.passes_of rfl) rfl (mi_any (m_var (pv 1))) (mg_name (i := 6) sc_is_row_of_parts.nd rfl (by first | exact .inl rfl | exact .inr rfl)) (ms_one (ms_if (mt_not (mt_truth (m_call T.f_is_within hr0 (L2.takes_of rfl rfl rfl rfl) rfl (ma_cons (m_var (pv 6)) (ma_cons (m_var (pv 2)) (ma_cons (m_var (pv 3)) ma_nil)))))) (ms_one (ms_ret m_bl)) ms_nil)))
  (ms_one (ms_ret m_bl)))))))
abbrev N_is_within : List Str := ["value", "room", "kept", "kind", "shape", "within", "at", "letter", "item", "right"]
theorem sc_is_within : FnScope N_is_within ["value", "room", "kept"] (defScope s_is_within) := ⟨rfl, rfl, rfl, by decide +kernel, rfl, by decide +kernel, by decide +kernel⟩
theorem d_is_within {P : Program} {w : World} {K : PySem.W.Frag} {mg : Str → Option Value} {base : Heap} {k : Nat} {C : Fn → Cal} (T : TT P w K mg base k C) : Bod P w K mg base (k + 1) N_is_within ("is_within" : Str) (defScope s_is_within) (defBody s_is_within) (b_is_within C) := fun f cd A outer s H E hr => by
  have hr0 : Room k (dX P w K mg base N_is_within ("is_within" : Str) (defScope s_is_within) f cd A outer s H E).A := hr.mono (Nat.le_succ k)
  exact (ms_cons (ms_if (mw_pt (mw_or (mt_cmp op_lt snd_cmp (m_var (pv 1)) m_int (by rfl)) (mw_or (mt_not (mt_truth (m_call T.f_is_row hr0 (L2.takes_of rfl rfl rfl rfl) rfl (ma_cons (m_var (pv 0)) ma_nil)))) (mw_or1 (mt_cmp op_lt snd_cmp (m_callB snd_len call_lenM rfl T.b_len boot_len (ma_cons (m_var (pv 0)) ma_nil)) m_int (by rfl)))))) (ms_one (ms_ret m_bl)) ms_nil)
  (ms_cons (ms_set (i := 3) sc_is_within.nd rfl (by first | exact .inl rfl | exact .inr rfl) (m_ix (ix_M (hu_of hr)) (snd_get T.gd) (m_var (pv 0)) m_int (by intro _ _; rfl)))
  (ms_cons (ms_if (mw_pt (mw_or (mt_not (mt_truth (m_callB snd_isi call_isiM rfl T.b_isinstance boot_isinstance (ma_cons (m_var (pv 3)) (ma_cons (m_ty rfl T.b_str boot_str) ma_nil))))) (mw_or (mt_cmp (op_notInM (hu_of hr)) (snd_notIn T.gd) (m_var (pv 3)) (m_gv T.g_SHAPES rfl) (by rfl)) (mw_or1 (mw_pt (mw_and (mt_truth (m_var (pv 2))) (mw_and1 (mt_cmp (op_inM (hu_of hr)) (snd_in T.gd) (m_var (pv 3)) (m_gv T.g_LEAVING rfl) (by rfl))))))))) (ms_one (ms_ret m_bl)) ms_nil)
  (ms_cons (ms_set (i := 4) sc_is_within.nd rfl (by first | exact .inl rfl | exact .inr rfl) (m_ix (ix_M (hu_of hr)) (snd_get T.gd) (m_gv T.g_SHAPES rfl) (m_var (pv 3)) (by intro _ _; rfl)))
  (ms_cons (ms_if (mt_cmp op_ne snd_ne (m_callB snd_len call_lenM rfl T.b_len boot_len (ma_cons (m_var (pv 0)) ma_nil)) (m_op op_addM snd_add (m_callB snd_len call_lenM rfl T.b_len boot_len (ma_cons (m_var (pv 4)) ma_nil)) m_int) (by rfl)) (ms_one (ms_ret m_bl)) ms_nil)
  (ms_cons (ms_set (i := 5) sc_is_within.nd rfl (by first | exact .inl rfl | exact .inr rfl) (m_or (m_var (pv 2)) (m_one (m_cmp op_eq snd_eq (m_var (pv 3)) m_str (by rfl)))))
  (ms_cons (ms_for (L2.passes_of rfl) rfl (mi_range1 rfl T.b_range (m_callB snd_len call_lenM rfl T.b_len boot_len (ma_cons (m_var (pv 4)) ma_nil))) (mg_name (i := 6) sc_is_within.nd rfl (by first | exact .inl rfl | exact .inr rfl)) (ms_cons (ms_par (i := 7) (j := 8) rfl sc_is_within.nd rfl rfl (by decide) rfl rfl (m_ix (ix_M (hu_of hr)) (snd_get T.gd) (m_var (pv 4)) (m_var (pv 6)) (by intro _ _; rfl)) (m_ix (ix_M (hu_of hr)) (snd_get T.gd) (m_var (pv 0)) (m_op op_addM snd_add (m_var (pv 6)) m_int) (by intro _ _; rfl)) (by rfl))
  (ms_cons (ms_if (mt_cmp op_eq snd_eq (m_var (pv 7)) m_str (by rfl)) (ms_one (ms_set (i := 9) sc_is_within.nd rfl (by first | exact .inl rfl | exact .inr rfl) (m_call T.f_is_within hr0 (L2.takes_of rfl rfl rfl rfl) rfl (ma_cons (m_var (pv 8)) (ma_cons (m_op op_sub snd_sub (m_var (pv 1)) m_int) (ma_cons (m_var (pv 5)) ma_nil)))))) (ms_one (ms_if (mt_cmp (op_inM (hu_of hr)) (snd_in T.gd) (m_var (pv 7)) (m_gv T.g_ROWS rfl) (by rfl)) (ms_one (ms_set (i := 9) sc_is_within.nd rfl (by first | exact .inl rfl | exact .inr rfl) (m_call T.f_is_row_of_parts hr0 (L2.takes_of rfl rfl rfl rfl) rfl (ma_cons (m_var (pv 7)) (ma_cons (m_var (pv 8)) (ma_cons (m_op op_sub snd_sub (m_var (pv 1)) m_int) (ma_cons (m_var (pv 5)) ma_nil))))))) (ms_one (ms_set (i := 9) sc_is_within.nd rfl (by first | exact .inl rfl | exact .inr rfl) (m_call T.f_is_plain hr0 (L2.takes_of rfl rfl rfl rfl) rfl (ma_cons (m_var (pv 7)) (ma_cons (m_var (pv 8)) ma_nil))))))))
  (ms_one (ms_if (mt_not (mt_truth (m_var (pv 9)))) (ms_one (ms_ret m_bl)) ms_nil)))))
  (ms_one (ms_ret m_bl)))))))))
abbrev N_is_expression : List Str := ["value"]
theorem sc_is_expression : FnScope N_is_expression ["value"] (defScope s_is_expression) := ⟨rfl, rfl, rfl, by decide +kernel, rfl, by decide +kernel, by decide +kernel⟩
theorem d_is_expression {P : Program} {w : World} {K : PySem.W.Frag} {mg : Str → Option Value} {base : Heap} {k : Nat} {C : Fn → Cal} (T : TT P w K mg base k C) : Bod P w K mg base (k + 1) N_is_expression ("is_expression" : Str) (defScope s_is_expression) (defBody s_is_expression) (b_is_expression C) := fun f cd A outer s H E hr => by
  have hr0 : Room k (dX P w K mg base N_is_expression ("is_expression" : Str) (defScope s_is_expression) f cd A outer s H E).A := hr.mono (Nat.le_succ k)
  exact (ms_one (ms_ret (m_call T.f_is_within hr0 (L2.takes_of rfl rfl rfl rfl) rfl (ma_cons (m_var (pv 0)) (ma_cons (m_gv T.g_DEEPEST rfl) (ma_cons m_bl ma_nil))))))
abbrev N_joined : List Str := ["parts", "part"]
theorem sc_joined : FnScope N_joined ["parts"] (defScope s_joined) := ⟨rfl, rfl, rfl, by decide +kernel, rfl, by decide +kernel, by decide +kernel⟩
theorem d_joined {P : Program} {w : World} {K : PySem.W.Frag} {mg : Str → Option Value} {base : Heap} {k : Nat} {C : Fn → Cal} (T : TT P w K mg base k C) : Bod P w K mg base (k + 1) N_joined ("joined" : Str) (defScope s_joined) (defBody s_joined) (b_joined C) := fun f cd A outer s H E hr => by
  have hr0 : Room k (dX P w K mg base N_joined ("joined" : Str) (defScope s_joined) f cd A outer s H E).A := hr.mono (Nat.le_succ k)
  exact (ms_one (ms_ret (m_bm PySem.F.plainAttrs_str PySem.F.slot_str_join PySem.F.type_str_join mt_join snd_join m_str (ma_cons (m_lc (own := [(("part" : Str), 1)]) rfl sc_joined.nd (mi_any (m_var (pv 0))) (blkOk_by (by rfl)) (fun _ _ _ _ _ => (mgo_name (i := 1) (by decide) sc_joined.nd rfl (by first | exact .inl rfl | exact .inr rfl))) (fun _ _ _ _ _ => mts_nil) (fun _ _ _ _ _ => (m_call T.f_written hr0 takes0 rfl (ma_cons (m_var (pv 1)) ma_nil)))) ma_nil))))
abbrev N_pair : List Str := ["one", "sign", "other"]
theorem sc_pair : FnScope N_pair ["one", "sign", "other"] (defScope s_pair) := ⟨rfl, rfl, rfl, by decide +kernel, rfl, by decide +kernel, by decide +kernel⟩
theorem d_pair {P : Program} {w : World} {K : PySem.W.Frag} {mg : Str → Option Value} {base : Heap} {k : Nat} {C : Fn → Cal} (T : TT P w K mg base k C) : Bod P w K mg base (k + 1) N_pair ("pair" : Str) (defScope s_pair) (defBody s_pair) (b_pair C) := fun f cd A outer s H E hr => by
  have hr0 : Room k (dX P w K mg base N_pair ("pair" : Str) (defScope s_pair) f cd A outer s H E).A := hr.mono (Nat.le_succ k)
  exact (ms_one (ms_ret (m_op op_addM snd_add (m_op op_addM snd_add (m_op op_addM snd_add (m_op op_addM snd_add (m_op op_addM snd_add (m_op op_addM snd_add m_str (m_var (pv 0))) m_str) (m_var (pv 1))) m_str) (m_var (pv 2))) m_str)))
abbrev N_written : List Str := ["expression", "kind"]
theorem sc_written : FnScope N_written ["expression"] (defScope s_written) := ⟨rfl, rfl, rfl, by decide +kernel, rfl, by decide +kernel, by decide +kernel⟩
theorem d_written {P : Program} {w : World} {K : PySem.W.Frag} {mg : Str → Option Value} {base : Heap} {k : Nat} {C : Fn → Cal} (T : TT P w K mg base k C) : Bod P w K mg base (k + 1) N_written ("written" : Str) (defScope s_written) (defBody s_written) (b_written C) := fun f cd A outer s H E hr => by
  have hr0 : Room k (dX P w K mg base N_written ("written" : Str) (defScope s_written) f cd A outer s H E).A := hr.mono (Nat.le_succ k)
  exact (ms_cons (ms_set (i := 1) sc_written.nd rfl (by first | exact .inl rfl | exact .inr rfl) (m_ix (ix_M (hu_of hr)) (snd_get T.gd) (m_var (pv 0)) m_int (by intro _ _; rfl)))
  (ms_cons (ms_if (mt_cmp (op_inM (hu_of hr)) (snd_in T.gd) (m_var (pv 1)) (m_gv T.g_ALONE rfl) (by rfl)) (ms_one (ms_ret (m_var (pv 1)))) ms_nil)
  (ms_cons (ms_if (mt_cmp op_eq snd_eq (m_var (pv 1)) m_str (by rfl)) (ms_one (ms_ret (m_callTy snd_str call_strM rfl T.b_str boot_str (ma_cons (m_ix (ix_M (hu_of hr)) (snd_get T.gd) (m_var (pv 0)) m_int (by intro _ _; rfl)) ma_nil)))) ms_nil)
  (ms_cons (ms_if (mt_cmp op_eq snd_eq (m_var (pv 1)) m_str (by rfl)) (ms_one (ms_ret (m_op op_addM snd_add (m_op op_addM snd_add m_str (m_ix (ix_M (hu_of hr)) (snd_get T.gd) (m_var (pv 0)) m_int (by intro _ _; rfl))) m_str))) ms_nil)
  (ms_cons (ms_if (mt_cmp op_eq snd_eq (m_var (pv 1)) m_str (by rfl)) (ms_one (ms_ret (m_ix (ix_M (hu_of hr)) (snd_get T.gd) (m_var (pv 0)) m_int (by intro _ _; rfl)))) ms_nil)
  (ms_cons (ms_if (mt_cmp op_eq snd_eq (m_var (pv 1)) m_str (by rfl)) (ms_one (ms_ret (m_op op_addM snd_add (m_op op_addM snd_add m_str (m_call T.f_joined hr0 (L2.takes_of rfl rfl rfl rfl) rfl (ma_cons (m_ix (ix_M (hu_of hr)) (snd_get T.gd) (m_var (pv 0)) m_int (by intro _ _; rfl)) ma_nil))) m_str))) ms_nil)
  (ms_cons (ms_if (mw_pt (mw_or (mt_cmp op_eq snd_eq (m_var (pv 1)) m_str (by rfl)) (mw_or1 (mt_cmp op_eq snd_eq (m_var (pv 1)) m_str (by rfl))))) (ms_one (ms_ret (m_call T.f_pair hr0 (L2.takes_of rfl rfl rfl rfl) rfl (ma_cons (m_call T.f_written hr0 (L2.takes_of rfl rfl rfl rfl) rfl (ma_cons (m_ix (ix_M (hu_of hr)) (snd_get T.gd) (m_var (pv 0)) m_int (by intro _ _; rfl)) ma_nil)) (ma_cons (m_ix (ix_M (hu_of hr)) (snd_get T.gd) (m_var (pv 0)) m_int (by intro _ _; rfl)) (ma_cons (m_call T.f_written hr0 (L2.takes_of rfl rfl rfl rfl) rfl (ma_cons (m_ix (ix_M (hu_of hr)) (snd_get T.gd) (m_var (pv 0)) m_int (by intro _ _; rfl)) ma_nil)) ma_nil)))))) ms_nil)
  (ms_cons (ms_if (mt_cmp (op_inM (hu_of hr)) (snd_in T.gd) (m_var (pv 1)) (m_gv T.g_BETWEEN rfl) (by rfl)) (ms_one (ms_ret (m_call T.f_pair hr0 (L2.takes_of rfl rfl rfl rfl) rfl (ma_cons (m_call T.f_written hr0 (L2.takes_of rfl rfl rfl rfl) rfl (ma_cons (m_ix (ix_M (hu_of hr)) (snd_get T.gd) (m_var (pv 0)) m_int (by intro _ _; rfl)) ma_nil)) (ma_cons (m_ix (ix_M (hu_of hr)) (snd_get T.gd) (m_gv T.g_BETWEEN rfl) (m_var (pv 1)) (by intro _ _; rfl)) (ma_cons (m_call T.f_written hr0 (L2.takes_of rfl rfl rfl rfl) rfl (ma_cons (m_ix (ix_M (hu_of hr)) (snd_get T.gd) (m_var (pv 0)) m_int (by intro _ _; rfl)) ma_nil)) ma_nil)))))) ms_nil)
  (ms_cons (ms_if (mt_cmp op_eq snd_eq (m_var (pv 1)) m_str (by rfl)) (ms_one (ms_ret (m_call T.f_pair hr0 (L2.takes_of rfl rfl rfl rfl) rfl (ma_cons (m_ix (ix_M (hu_of hr)) (snd_get T.gd) (m_var (pv 0)) m_int (by intro _ _; rfl)) (ma_cons m_str (ma_cons (m_call T.f_written hr0 (L2.takes_of rfl rfl rfl rfl) rfl (ma_cons (m_ix (ix_M (hu_of hr)) (snd_get T.gd) (m_var (pv 0)) m_int (by intro _ _; rfl)) ma_nil)) ma_nil)))))) ms_nil)
  (ms_cons (ms_if (mt_cmp op_eq snd_eq (m_var (pv 1)) m_str (by rfl)) (ms_one (ms_ret (m_call T.f_pair hr0 (L2.takes_of rfl rfl rfl rfl) rfl (ma_cons (m_ix (ix_M (hu_of hr)) (snd_get T.gd) (m_var (pv 0)) m_int (by intro _ _; rfl)) (ma_cons m_str (ma_cons (m_call T.f_written hr0 (L2.takes_of rfl rfl rfl rfl) rfl (ma_cons (m_ix (ix_M (hu_of hr)) (snd_get T.gd) (m_var (pv 0)) m_int (by intro _ _; rfl)) ma_nil)) ma_nil)))))) ms_nil)
  (ms_one (ms_ret (m_op op_addM snd_add (m_op op_addM snd_add (m_op op_addM snd_add (m_var (pv 1)) m_str) (m_call T.f_bracketed hr0 (L2.takes_of rfl rfl rfl rfl) rfl (ma_cons (m_var (pv 0)) ma_nil))) m_str)))))))))))))
abbrev N_bracketed : List Str := ["expression", "kind"]
theorem sc_bracketed : FnScope N_bracketed ["expression"] (defScope s_bracketed) := ⟨rfl, rfl, rfl, by decide +kernel, rfl, by decide +kernel, by decide +kernel⟩
theorem d_bracketed {P : Program} {w : World} {K : PySem.W.Frag} {mg : Str → Option Value} {base : Heap} {k : Nat} {C : Fn → Cal} (T : TT P w K mg base k C) : Bod P w K mg base (k + 1) N_bracketed ("bracketed" : Str) (defScope s_bracketed) (defBody s_bracketed) (b_bracketed C) := fun f cd A outer s H E hr => by
  have hr0 : Room k (dX P w K mg base N_bracketed ("bracketed" : Str) (defScope s_bracketed) f cd A outer s H E).A := hr.mono (Nat.le_succ k)
  exact (ms_cons (ms_set (i := 1) sc_bracketed.nd rfl (by first | exact .inl rfl | exact .inr rfl) (m_ix (ix_M (hu_of hr)) (snd_get T.gd) (m_var (pv 0)) m_int (by intro _ _; rfl)))
  (ms_cons (ms_if (mt_cmp op_eq snd_eq (m_var (pv 1)) m_str (by rfl)) (ms_one (ms_ret (m_op op_addM snd_add (m_op op_addM snd_add (m_callTy snd_str call_strM rfl T.b_str boot_str (ma_cons (m_ix (ix_M (hu_of hr)) (snd_get T.gd) (m_var (pv 0)) m_int (by intro _ _; rfl)) ma_nil)) m_str) (m_call T.f_written hr0 (L2.takes_of rfl rfl rfl rfl) rfl (ma_cons (m_ix (ix_M (hu_of hr)) (snd_get T.gd) (m_var (pv 0)) m_int (by intro _ _; rfl)) ma_nil))))) ms_nil)
  (ms_cons (ms_if (mt_cmp op_eq snd_eq (m_var (pv 1)) m_str (by rfl)) (ms_one (ms_ret (m_call T.f_joined hr0 (L2.takes_of rfl rfl rfl rfl) rfl (ma_cons (m_ix (ix_M (hu_of hr)) (snd_get T.gd) (m_var (pv 0)) m_int (by intro _ _; rfl)) ma_nil)))) ms_nil)
  (ms_cons (ms_if (mt_cmp op_eq snd_eq (m_var (pv 1)) m_str (by rfl)) (ms_one (ms_ret (m_call T.f_joined hr0 (L2.takes_of rfl rfl rfl rfl) rfl (ma_cons (m_op op_addM snd_add (m_lst (ma_cons (m_ix (ix_M (hu_of hr)) (snd_get T.gd) (m_var (pv 0)) m_int (by intro _ _; rfl)) ma_nil)) (m_callTy snd_list (call_listM rfl) rfl T.b_list boot_list (ma_cons (m_ix (ix_M (hu_of hr)) (snd_get T.gd) (m_var (pv 0)) m_int (by intro _ _; rfl)) ma_nil))) ma_nil)))) ms_nil)
  (ms_one (ms_ret (m_call T.f_joined hr0 (L2.takes_of rfl rfl rfl rfl) rfl (ma_cons (m_cut (m_var (pv 0)) (mo_some m_int) mo_none) ma_nil))))))))
abbrev N_expression_text : List Str := ["expression"]
theorem sc_expression_text : FnScope N_expression_text ["expression"] (defScope s_expression_text) := ⟨rfl, rfl, rfl, by decide +kernel, rfl, by decide +kernel, by decide +kernel⟩
theorem d_expression_text {P : Program} {w : World} {K : PySem.W.Frag} {mg : Str → Option Value} {base : Heap} {k : Nat} {C : Fn → Cal} (T : TT P w K mg base k C) : Bod P w K mg base (k + 1) N_expression_text ("expression_text" : Str) (defScope s_expression_text) (defBody s_expression_text) (b_expression_text C) := fun f cd A outer s H E hr => by
  have hr0 : Room k (dX P w K mg base N_expression_text ("expression_text" : Str) (defScope s_expression_text) f cd A outer s H E).A := hr.mono (Nat.le_succ k)
  exact (ms_cons (ms_if (mt_not (mt_truth (m_call T.f_is_expression hr0 (L2.takes_of rfl rfl rfl rfl) rfl (ma_cons (m_var (pv 0)) ma_nil)))) (ms_one (ms_raise0 T.r_NoExpression rfl (L2.takes_of rfl rfl rfl rfl) rfl)) ms_nil)
  (ms_one (ms_ret (m_call T.f_written hr0 (L2.takes_of rfl rfl rfl rfl) rfl (ma_cons (m_var (pv 0)) ma_nil)))))
abbrev N__law_bag : List Str := ["script", "cells", "cell"]
theorem sc__law_bag : FnScope N__law_bag ["script"] (defScope s__law_bag) := ⟨rfl, rfl, rfl, by decide +kernel, rfl, by decide +kernel, by decide +kernel⟩
theorem d__law_bag {P : Program} {w : World} {K : PySem.W.Frag} {mg : Str → Option Value} {base : Heap} {k : Nat} {C : Fn → Cal} (T : TT P w K mg base k C) : Bod P w K mg base (k + 1) N__law_bag ("_law_bag" : Str) (defScope s__law_bag) (defBody s__law_bag) (b__law_bag C) := fun f cd A outer s H E hr => by
  have hr0 : Room k (dX P w K mg base N__law_bag ("_law_bag" : Str) (defScope s__law_bag) f cd A outer s H E).A := hr.mono (Nat.le_succ k)
  exact (ms_cons (ms_setLc (i := 1) (own := [(("cell" : Str), 2)]) rfl sc__law_bag.nd rfl rfl (sw_true rfl rfl rfl (by rfl)) (mi_any (m_cut (m_var (pv 0)) mo_none (mo_some m_int))) (blkOk_by (by rfl)) (fun _ _ _ _ _ => (mgo_name (i := 2) (by decide) sc__law_bag.nd rfl (by first | exact .inl rfl | exact .inr rfl))) (fun _ _ _ _ _ => mts_nil) (fun _ _ _ _ _ => (m_callB snd_abs call_abs rfl T.b_abs boot_abs (ma_cons (m_callTy snd_int call_int1 rfl T.b_int boot_int (ma_cons (m_var (pv 2)) ma_nil)) ma_nil))))
  (ms_one (ms_ret (m_lst (ma_cons (m_var (pv 1)) (ma_cons (m_lc (own := [(("cell" : Str), 2)]) rfl sc__law_bag.nd (mi_any (m_var (pv 1))) (blkOk_by (by rfl)) (fun _ _ _ _ _ => (mgo_name (i := 2) (by decide) sc__law_bag.nd rfl (by first | exact .inl rfl | exact .inr rfl))) (fun _ _ _ _ _ => mts_nil) (fun _ _ _ _ _ => (m_cmp op_ge snd_cmp (m_var (pv 2)) (m_op op_pow snd_pow m_int m_int) (by rfl)))) (ma_cons m_int (ma_cons m_int ma_nil))))))))
abbrev N__law_mixed : List Str := ["cell", "turn", "number"]
theorem sc__law_mixed : FnScope N__law_mixed ["cell", "turn"] (defScope s__law_mixed) := ⟨rfl, rfl, rfl, by decide +kernel, rfl, by decide +kernel, by decide +kernel⟩
theorem d__law_mixed {P : Program} {w : World} {K : PySem.W.Frag} {mg : Str → Option Value} {base : Heap} {k : Nat} {C : Fn → Cal} (T : TT P w K mg base k C) : Bod P w K mg base (k + 1) N__law_mixed ("_law_mixed" : Str) (defScope s__law_mixed) (defBody s__law_mixed) (b__law_mixed C) := fun f cd A outer s H E hr => by
  have hr0 : Room k (dX P w K mg base N__law_mixed ("_law_mixed" : Str) (defScope s__law_mixed) f cd A outer s H E).A := hr.mono (Nat.le_succ k)
  exact (ms_cons (ms_set (i := 2) sc__law_mixed.nd rfl (by first | exact .inl rfl | exact .inr rfl) (m_op op_mod snd_mod (m_op op_mulM snd_mul (m_op op_addM snd_add (m_op op_addM snd_add (m_op op_mod snd_mod (m_callTy snd_int call_int1 rfl T.b_int boot_int (ma_cons (m_var (pv 0)) ma_nil)) m_int) (m_op op_mulM snd_mul m_int (m_var (pv 1)))) m_int) m_int) m_int))
  (ms_cons (ms_set (i := 2) sc__law_mixed.nd rfl (by first | exact .inl rfl | exact .inr rfl) (m_op op_mod snd_mod (m_op op_mulM snd_mul (m_var (pv 2)) (m_op op_addM snd_add (m_op op_fdiv snd_fdiv (m_var (pv 2)) m_int) m_int)) m_int))
  (ms_one (ms_ret (m_op op_mod snd_mod (m_op op_mulM snd_mul (m_var (pv 2)) (m_op op_addM snd_add (m_op op_fdiv snd_fdiv (m_var (pv 2)) m_int) m_int)) m_int)))))
abbrev N__law_draw : List Str := ["bag", "limit", "cells", "greats", "at", "cell"]
theorem sc__law_draw : FnScope N__law_draw ["bag", "limit"] (defScope s__law_draw) := ⟨rfl, rfl, rfl, by decide +kernel, rfl, by decide +kernel, by decide +kernel⟩
theorem d__law_draw {P : Program} {w : World} {K : PySem.W.Frag} {mg : Str → Option Value} {base : Heap} {k : Nat} {C : Fn → Cal} (T : TT P w K mg base k C) : Bod P w K mg base (k + 1) N__law_draw ("_law_draw" : Str) (defScope s__law_draw) (defBody s__law_draw) (b__law_draw C) := fun f cd A outer s H E hr => by
  have hr0 : Room k (dX P w K mg base N__law_draw ("_law_draw" : Str) (defScope s__law_draw) f cd A outer s H E).A := hr.mono (Nat.le_succ k)
  exact (ms_cons (ms_par (i := 2) (j := 3) rfl sc__law_draw.nd rfl rfl (by decide) rfl rfl (m_ix (ix_M (hu_of hr)) (snd_get T.gd) (m_var (pv 0)) m_int (by intro _ _; rfl)) (m_ix (ix_M (hu_of hr)) (snd_get T.gd) (m_var (pv 0)) m_int (by intro _ _; rfl)) (by rfl))
  (ms_cons (ms_setIx (m_var (pv 0)) m_int (m_op op_addM snd_add (m_ix (ix_M (hu_of hr)) (snd_get T.gd) (m_var (pv 0)) m_int (by intro _ _; rfl)) m_int) (set_M (hu_of hr)) snd_set)
  (ms_cons (ms_if (mt_cmp op_eq snd_eq (m_callB snd_len call_lenM rfl T.b_len boot_len (ma_cons (m_var (pv 2)) ma_nil)) m_int (by rfl)) (ms_one (ms_ret (m_op op_mod snd_mod (m_callTy snd_int call_int1 rfl T.b_int boot_int (ma_cons (m_call T.f__law_mixed hr0 (L2.takes_of rfl rfl rfl rfl) rfl (ma_cons m_int (ma_cons (m_ix (ix_M (hu_of hr)) (snd_get T.gd) (m_var (pv 0)) m_int (by intro _ _; rfl)) ma_nil))) ma_nil)) (m_var (pv 1))))) ms_nil)
  (ms_cons (ms_set (i := 4) sc__law_draw.nd rfl (by first | exact .inl rfl | exact .inr rfl) (m_op op_mod snd_mod (m_callTy snd_int call_int1 rfl T.b_int boot_int (ma_cons (m_ix (ix_M (hu_of hr)) (snd_get T.gd) (m_var (pv 0)) m_int (by intro _ _; rfl)) ma_nil)) (m_callB snd_len call_lenM rfl T.b_len boot_len (ma_cons (m_var (pv 2)) ma_nil))))
  (ms_cons (ms_set (i := 5) sc__law_draw.nd rfl (by first | exact .inl rfl | exact .inr rfl) (m_ix (ix_M (hu_of hr)) (snd_get T.gd) (m_var (pv 2)) (m_var (pv 4)) (by intro _ _; rfl)))
  (ms_cons (ms_if (mt_truth (m_ix (ix_M (hu_of hr)) (snd_get T.gd) (m_var (pv 3)) (m_var (pv 4)) (by intro _ _; rfl))) (ms_cons (ms_setIx (m_var (pv 2)) (m_var (pv 4)) (m_op op_fdiv snd_fdiv (m_var (pv 5)) (m_var (pv 1))) (set_M (hu_of hr)) snd_set)
  (ms_cons (ms_if (mt_cmp op_eq snd_eq (m_ix (ix_M (hu_of hr)) (snd_get T.gd) (m_var (pv 2)) (m_var (pv 4)) (by intro _ _; rfl)) m_int (by rfl)) (ms_cons (ms_setIx (m_var (pv 3)) (m_var (pv 4)) m_bl (set_M (hu_of hr)) snd_set)
  (ms_one (ms_setIx (m_var (pv 0)) m_int (m_op op_addM snd_add (m_ix (ix_M (hu_of hr)) (snd_get T.gd) (m_var (pv 0)) m_int (by intro _ _; rfl)) m_int) (set_M (hu_of hr)) snd_set))) ms_nil)
  (ms_one (ms_ret (m_op op_mod snd_mod (m_callTy snd_int call_int1 rfl T.b_int boot_int (ma_cons (m_var (pv 5)) ma_nil)) (m_var (pv 1))))))) ms_nil)
  (ms_cons (ms_setIx (m_var (pv 0)) m_int (m_op op_addM snd_add (m_ix (ix_M (hu_of hr)) (snd_get T.gd) (m_var (pv 0)) m_int (by intro _ _; rfl)) m_int) (set_M (hu_of hr)) snd_set)
  (ms_one (ms_ret (m_op op_mod snd_mod (m_callTy snd_int call_int1 rfl T.b_int boot_int (ma_cons (m_call T.f__law_mixed hr0 (L2.takes_of rfl rfl rfl rfl) rfl (ma_cons (m_var (pv 5)) (ma_cons (m_ix (ix_M (hu_of hr)) (snd_get T.gd) (m_var (pv 0)) m_int (by intro _ _; rfl)) ma_nil))) ma_nil)) (m_var (pv 1))))))))))))
abbrev N__law_words : List Str := ["words"]
theorem sc__law_words : FnScope N__law_words [] (defScope s__law_words) := ⟨rfl, rfl, rfl, by decide +kernel, rfl, by decide +kernel, by decide +kernel⟩
theorem d__law_words {P : Program} {w : World} {K : PySem.W.Frag} {mg : Str → Option Value} {base : Heap} {k : Nat} {C : Fn → Cal} (T : TT P w K mg base k C) : Bod P w K mg base (k + 1) N__law_words ("_law_words" : Str) (defScope s__law_words) (defBody s__law_words) (b__law_words C) := fun f cd A outer s H E hr => by
  have hr0 : Room k (dX P w K mg base N__law_words ("_law_words" : Str) (defScope s__law_words) f cd A outer s H E).A := hr.mono (Nat.le_succ k)
  exact (ms_cons (ms_set (i := 0) sc__law_words.nd rfl (by first | exact .inl rfl | exact .inr rfl) (m_lst (ma_cons m_str (ma_cons m_str (ma_cons m_str (ma_cons m_str (ma_cons m_str (ma_cons m_str (ma_cons m_str (ma_cons m_str (ma_cons m_str (ma_cons m_str (ma_cons m_str (ma_cons m_str (ma_cons m_str ma_nil)))))))))))))))
  (ms_cons (ms_set (i := 0) sc__law_words.nd rfl (by first | exact .inl rfl | exact .inr rfl) (m_op op_addM snd_add (m_var (pv 0)) (m_lst (ma_cons m_str (ma_cons m_str (ma_cons m_str (ma_cons m_str (ma_cons m_str (ma_cons m_str (ma_cons m_str (ma_cons m_str (ma_cons m_str (ma_cons m_str (ma_cons m_str (ma_cons m_str ma_nil)))))))))))))))
  (ms_one (ms_ret (m_op op_addM snd_add (m_var (pv 0)) (m_lst (ma_cons m_str (ma_cons m_str (ma_cons m_str (ma_cons m_str (ma_cons m_str (ma_cons m_str (ma_cons m_str (ma_cons m_str (ma_cons m_str (ma_cons m_str (ma_cons m_str ma_nil)))))))))))))))))
abbrev N__law_letters : List Str := ["bag", "size", "k"]
theorem sc__law_letters : FnScope N__law_letters ["bag", "size"] (defScope s__law_letters) := ⟨rfl, rfl, rfl, by decide +kernel, rfl, by decide +kernel, by decide +kernel⟩
theorem d__law_letters {P : Program} {w : World} {K : PySem.W.Frag} {mg : Str → Option Value} {base : Heap} {k : Nat} {C : Fn → Cal} (T : TT P w K mg base k C) : Bod P w K mg base (k + 1) N__law_letters ("_law_letters" : Str) (defScope s__law_letters) (defBody s__law_letters) (b__law_letters C) := fun f cd A outer s H E hr => by
  have hr0 : Room k (dX P w K mg base N__law_letters ("_law_letters" : Str) (defScope s__law_letters) f cd A outer s H E).A := hr.mono (Nat.le_succ k)
  exact (ms_one (ms_ret (m_bm PySem.F.plainAttrs_str PySem.F.slot_str_join PySem.F.type_str_join mt_join snd_join m_str (ma_cons (m_lc (own := [(("k" : Str), 2)]) rfl sc__law_letters.nd (mi_range1 rfl T.b_range (m_var (pv 1))) (blkOk_by (by rfl)) (fun _ _ _ _ _ => (mgo_name (i := 2) (by decide) sc__law_letters.nd rfl (by first | exact .inl rfl | exact .inr rfl))) (fun _ _ _ _ _ => mts_nil) (fun _ _ _ _ _ => (m_ix (ix_M (hu_of hr)) (snd_get T.gd) m_str (m_call T.f__law_draw hr0 takes0 rfl (ma_cons (m_var (pv 0)) (ma_cons m_int ma_nil))) (by intro _ _; rfl)))) ma_nil))))
abbrev N__law_name : List Str := ["bag", "choice", "word", "more"]
theorem sc__law_name : FnScope N__law_name ["bag"] (defScope s__law_name) := ⟨rfl, rfl, rfl, by decide +kernel, rfl, by decide +kernel, by decide +kernel⟩
theorem d__law_name {P : Program} {w : World} {K : PySem.W.Frag} {mg : Str → Option Value} {base : Heap} {k : Nat} {C : Fn → Cal} (T : TT P w K mg base k C) : Bod P w K mg base (k + 1) N__law_name ("_law_name" : Str) (defScope s__law_name) (defBody s__law_name) (b__law_name C) := fun f cd A outer s H E hr => by
  have hr0 : Room k (dX P w K mg base N__law_name ("_law_name" : Str) (defScope s__law_name) f cd A outer s H E).A := hr.mono (Nat.le_succ k)
  exact (ms_cons (ms_set (i := 1) sc__law_name.nd rfl (by first | exact .inl rfl | exact .inr rfl) (m_call T.f__law_draw hr0 (L2.takes_of rfl rfl rfl rfl) rfl (ma_cons (m_var (pv 0)) (ma_cons m_int ma_nil))))
  (ms_cons (ms_set (i := 2) sc__law_name.nd rfl (by first | exact .inl rfl | exact .inr rfl) (m_ix (ix_M (hu_of hr)) (snd_get T.gd) (m_call0 T.f__law_words hr0 (L2.takes_of rfl rfl rfl rfl) rfl) (m_call T.f__law_draw hr0 (L2.takes_of rfl rfl rfl rfl) rfl (ma_cons (m_var (pv 0)) (ma_cons m_int ma_nil))) (by intro _ _; rfl)))
  (ms_cons (ms_set (i := 3) sc__law_name.nd rfl (by first | exact .inl rfl | exact .inr rfl) (m_call T.f__law_letters hr0 (L2.takes_of rfl rfl rfl rfl) rfl (ma_cons (m_var (pv 0)) (ma_cons (m_op op_addM snd_add m_int (m_call T.f__law_draw hr0 (L2.takes_of rfl rfl rfl rfl) rfl (ma_cons (m_var (pv 0)) (ma_cons m_int ma_nil)))) ma_nil))))
  (ms_cons (ms_set (i := 2) sc__law_name.nd rfl (by first | exact .inl rfl | exact .inr rfl) (m_ix (ix_M (hu_of hr)) (snd_get T.gd) (m_lst (ma_cons (m_op op_addM snd_add (m_cut (m_var (pv 2)) mo_none (mo_some m_int)) (m_cut (m_var (pv 3)) mo_none (mo_some m_int))) (ma_cons (m_cut (m_var (pv 2)) mo_none (mo_some (m_un un_neg snd_neg m_int))) (ma_cons (m_var (pv 3)) (ma_cons m_str (ma_cons m_str (ma_cons m_str (ma_cons m_str ma_nil)))))))) (m_var (pv 1)) (by intro _ _; rfl)))
  (ms_cons (ms_if (mt_cmp (op_inM (hu_of hr)) (snd_in T.gd) (m_var (pv 2)) (m_call0 T.f__law_words hr0 (L2.takes_of rfl rfl rfl rfl) rfl) (by rfl)) (ms_one (ms_ret (m_op op_addM snd_add m_str (m_cut (m_var (pv 2)) (mo_some m_int) mo_none)))) ms_nil)
  (ms_one (ms_ret (m_var (pv 2)))))))))
abbrev N__law_written : List Str := ["bag", "characters", "size", "k"]
theorem sc__law_written : FnScope N__law_written ["bag"] (defScope s__law_written) := ⟨rfl, rfl, rfl, by decide +kernel, rfl, by decide +kernel, by decide +kernel⟩
theorem d__law_written {P : Program} {w : World} {K : PySem.W.Frag} {mg : Str → Option Value} {base : Heap} {k : Nat} {C : Fn → Cal} (T : TT P w K mg base k C) : Bod P w K mg base (k + 1) N__law_written ("_law_written" : Str) (defScope s__law_written) (defBody s__law_written) (b__law_written C) := fun f cd A outer s H E hr => by
  have hr0 : Room k (dX P w K mg base N__law_written ("_law_written" : Str) (defScope s__law_written) f cd A outer s H E).A := hr.mono (Nat.le_succ k)
  exact (ms_cons (ms_set (i := 1) sc__law_written.nd rfl (by first | exact .inl rfl | exact .inr rfl) m_str)
  (ms_cons (ms_set (i := 2) sc__law_written.nd rfl (by first | exact .inl rfl | exact .inr rfl) (m_call T.f__law_draw hr0 (L2.takes_of rfl rfl rfl rfl) rfl (ma_cons (m_var (pv 0)) (ma_cons m_int ma_nil))))
  (ms_cons (ms_if (mt_cmp op_eq snd_eq (m_var (pv 2)) m_int (by rfl)) (ms_one (ms_set (i := 2) sc__law_written.nd rfl (by first | exact .inl rfl | exact .inr rfl) (m_call T.f__law_draw hr0 (L2.takes_of rfl rfl rfl rfl) rfl (ma_cons (m_var (pv 0)) (ma_cons m_int ma_nil))))) ms_nil)
  (ms_one (ms_ret (m_bm PySem.F.plainAttrs_str PySem.F.slot_str_join PySem.F.type_str_join mt_join snd_join m_str (ma_cons (m_lc (own := [(("k" : Str), 3)]) rfl sc__law_written.nd (mi_range1 rfl T.b_range (m_var (pv 2))) (blkOk_by (by rfl)) (fun _ _ _ _ _ => (mgo_name (i := 3) (by decide) sc__law_written.nd rfl (by first | exact .inl rfl | exact .inr rfl))) (fun _ _ _ _ _ => mts_nil) (fun _ _ _ _ _ => (m_ix (ix_M (hu_of hr)) (snd_get T.gd) (m_var (pv 1)) (m_call T.f__law_draw hr0 takes0 rfl (ma_cons (m_var (pv 0)) (ma_cons (m_callB snd_len call_lenM rfl T.b_len boot_len (ma_cons (m_var (pv 1)) ma_nil)) ma_nil))) (by intro _ _; rfl)))) ma_nil)))))))
abbrev N__law_shapes : List Str := ["shapes", "kind", "kinds", "more"]
theorem sc__law_shapes : FnScope N__law_shapes [] (defScope s__law_shapes) := ⟨rfl, rfl, rfl, by decide +kernel, rfl, by decide +kernel, by decide +kernel⟩
theorem d__law_shapes {P : Program} {w : World} {K : PySem.W.Frag} {mg : Str → Option Value} {base : Heap} {k : Nat} {C : Fn → Cal} (T : TT P w K mg base k C) : Bod P w K mg base (k + 1) N__law_shapes ("_law_shapes" : Str) (defScope s__law_shapes) (defBody s__law_shapes) (b__law_shapes C) := fun f cd A outer s H E hr => by
  have hr0 : Room k (dX P w K mg base N__law_shapes ("_law_shapes" : Str) (defScope s__law_shapes) f cd A outer s H E).A := hr.mono (Nat.le_succ k)
  exact (ms_cons (ms_set (i := 0) sc__law_shapes.nd rfl (by first | exact .inl rfl | exact .inr rfl) (m_disp (mps_cons m_str m_str (mps_cons m_str m_str (mps_cons m_str m_str (mps_cons m_str m_str (mps_cons m_str m_str (mps_cons m_str m_str (mps_cons m_str m_str (mps_cons m_str m_str mps_nil))))))))))
  (ms_cons (ms_for (L2.passes_of rfl) rfl (mi_any (m_lst (ma_cons m_str (ma_cons m_str (ma_cons m_str (ma_cons m_str (ma_cons m_str (ma_cons m_str (ma_cons m_str (ma_cons m_str ma_nil)))))))))) (mg_name (i := 1) sc__law_shapes.nd rfl (by first | exact .inl rfl | exact .inr rfl)) (ms_one (ms_setIx (m_var (pv 0)) (m_var (pv 1)) m_str (set_M (hu_of hr)) snd_set)))
  (ms_cons (ms_set (i := 2) sc__law_shapes.nd rfl (by first | exact .inl rfl | exact .inr rfl) (m_lst (ma_cons m_str (ma_cons m_str (ma_cons m_str (ma_cons m_str (ma_cons m_str (ma_cons m_str (ma_cons m_str (ma_cons m_str (ma_cons m_str (ma_cons m_str (ma_cons m_str (ma_cons m_str (ma_cons m_str (ma_cons m_str ma_nil))))))))))))))))
  (ms_cons (ms_for (L2.passes_of rfl) rfl (mi_any (m_op op_addM snd_add (m_var (pv 2)) (m_lst (ma_cons m_str (ma_cons m_str (ma_cons m_str (ma_cons m_str ma_nil))))))) (mg_name (i := 1) sc__law_shapes.nd rfl (by first | exact .inl rfl | exact .inr rfl)) (ms_one (ms_setIx (m_var (pv 0)) (m_var (pv 1)) m_str (set_M (hu_of hr)) snd_set)))
  (ms_cons (ms_set (i := 3) sc__law_shapes.nd rfl (by first | exact .inl rfl | exact .inr rfl) (m_disp (mps_cons m_str m_str (mps_cons m_str m_str (mps_cons m_str m_str (mps_cons m_str m_str (mps_cons m_str m_str (mps_cons m_str m_str (mps_cons m_str m_str (mps_cons m_str m_str mps_nil))))))))))
  (ms_cons (ms_expr (m_bm PySem.F.plainAttrs_dict PySem.F.slot_dict_update PySem.F.type_dict_update mt_update snd_update (m_var (pv 0)) (ma_cons (m_var (pv 3)) ma_nil)))
  (ms_one (ms_ret (m_var (pv 0))))))))))
abbrev N__law_leaf : List Str := ["bag", "kept", "choice"]
theorem sc__law_leaf : FnScope N__law_leaf ["bag", "kept"] (defScope s__law_leaf) := ⟨rfl, rfl, rfl, by decide +kernel, rfl, by decide +kernel, by decide +kernel⟩
theorem d__law_leaf {P : Program} {w : World} {K : PySem.W.Frag} {mg : Str → Option Value} {base : Heap} {k : Nat} {C : Fn → Cal} (T : TT P w K mg base k C) : Bod P w K mg base (k + 1) N__law_leaf ("_law_leaf" : Str) (defScope s__law_leaf) (defBody s__law_leaf) (b__law_leaf C) := fun f cd A outer s H E hr => by
  have hr0 : Room k (dX P w K mg base N__law_leaf ("_law_leaf" : Str) (defScope s__law_leaf) f cd A outer s H E).A := hr.mono (Nat.le_succ k)
  exact (ms_cons (ms_set (i := 2) sc__law_leaf.nd rfl (by first | exact .inl rfl | exact .inr rfl) (m_call T.f__law_draw hr0 (L2.takes_of rfl rfl rfl rfl) rfl (ma_cons (m_var (pv 0)) (ma_cons m_int ma_nil))))
  (ms_cons (ms_if (mw_pt (mw_and (mt_cmp op_eq snd_eq (m_var (pv 2)) m_int (by rfl)) (mw_and1 (mt_cmp op_eq snd_eq (m_var (pv 1)) m_int (by rfl))))) (ms_one (ms_ret (m_tup (ma_cons m_str ma_nil)))) ms_nil)
  (ms_cons (ms_if (mt_cmp op_gt snd_cmp (m_var (pv 2)) m_int (by rfl)) (ms_one (ms_ret (m_tup (ma_cons m_str (ma_cons (m_call T.f__law_name hr0 (L2.takes_of rfl rfl rfl rfl) rfl (ma_cons (m_var (pv 0)) ma_nil)) ma_nil))))) ms_nil)
  (ms_cons (ms_if (mt_cmp op_eq snd_eq (m_var (pv 2)) m_int (by rfl)) (ms_one (ms_ret (m_tup (ma_cons m_str (ma_cons (m_op op_sub snd_sub (m_call T.f__law_draw hr0 (L2.takes_of rfl rfl rfl rfl) rfl (ma_cons (m_var (pv 0)) (ma_cons m_int ma_nil))) m_int) ma_nil))))) ms_nil)
  (ms_cons (ms_if (mt_cmp op_eq snd_eq (m_var (pv 2)) m_int (by rfl)) (ms_one (ms_ret (m_tup (ma_cons m_str (ma_cons (m_call T.f__law_written hr0 (L2.takes_of rfl rfl rfl rfl) rfl (ma_cons (m_var (pv 0)) ma_nil)) ma_nil))))) ms_nil)
  (ms_one (ms_ret (m_ix (ix_M (hu_of hr)) (snd_get T.gd) (m_lst (ma_cons (m_tup (ma_cons m_str ma_nil)) (ma_cons m_non (ma_cons m_non (ma_cons (m_tup (ma_cons m_str (ma_cons (m_lst ma_nil) ma_nil))) (ma_cons (m_tup (ma_cons m_str ma_nil)) (ma_cons (m_lst (ma_cons m_str ma_nil)) ma_nil))))))) (m_var (pv 2)) (by intro _ _; rfl)))))))))
abbrev N__law_item : List Str := ["bag", "letter", "room", "depth", "kept", "row", "many", "turn", "k"]
theorem sc__law_item : FnScope N__law_item ["bag", "letter", "room", "depth", "kept"] (defScope s__law_item) := ⟨rfl, rfl, rfl, by decide +kernel, rfl, by decide +kernel, by decide +kernel⟩
theorem d__law_item {P : Program} {w : World} {K : PySem.W.Frag} {mg : Str → Option Value} {base : Heap} {k : Nat} {C : Fn → Cal} (T : TT P w K mg base k C) : Bod P w K mg base (k + 1) N__law_item ("_law_item" : Str) (defScope s__law_item) (defBody s__law_item) (b__law_item C) := fun f cd A outer s H E hr => by
  have hr0 : Room k (dX P w K mg base N__law_item ("_law_item" : Str) (defScope s__law_item) f cd A outer s H E).A := hr.mono (Nat.le_succ k)
  exact (ms_cons (ms_if (mt_cmp op_eq snd_eq (m_var (pv 1)) m_str (by rfl)) (ms_one (ms_ret (m_call T.f__law_expression hr0 (L2.takes_of rfl rfl rfl rfl) rfl (ma_cons (m_var (pv 0)) (ma_cons (m_var (pv 2)) (ma_cons (m_var (pv 3)) (ma_cons (m_var (pv 4)) ma_nil))))))) ms_nil)
  (ms_cons (ms_if (mt_cmp op_eq snd_eq (m_var (pv 1)) m_str (by rfl)) (ms_one (ms_ret (m_op op_sub snd_sub (m_call T.f__law_draw hr0 (L2.takes_of rfl rfl rfl rfl) rfl (ma_cons (m_var (pv 0)) (ma_cons m_int ma_nil))) m_int))) ms_nil)
  (ms_cons (ms_if (mt_cmp op_eq snd_eq (m_var (pv 1)) m_str (by rfl)) (ms_one (ms_ret (m_call T.f__law_draw hr0 (L2.takes_of rfl rfl rfl rfl) rfl (ma_cons (m_var (pv 0)) (ma_cons m_int ma_nil))))) ms_nil)
  (ms_cons (ms_if (mt_cmp (op_inM (hu_of hr)) (snd_in T.gd) (m_var (pv 1)) m_str (by rfl)) (ms_cons (ms_set (i := 5) sc__law_item.nd rfl (by first | exact .inl rfl | exact .inr rfl) (m_lst (ma_cons m_str (ma_cons m_str (ma_cons m_str (ma_cons m_str (ma_cons m_str (ma_cons m_str (ma_cons m_str (ma_cons m_str (ma_cons m_str (ma_cons m_str (ma_cons m_str (ma_cons m_str ma_nil))))))))))))))
  (ms_one (ms_ret (m_ix (ix_M (hu_of hr)) (snd_get T.gd) (m_var (pv 5)) (m_op op_addM snd_add (m_call T.f__law_draw hr0 (L2.takes_of rfl rfl rfl rfl) rfl (ma_cons (m_var (pv 0)) (ma_cons m_int ma_nil))) (m_op op_mulM snd_mul m_int (m_callTy snd_int call_int1 rfl T.b_int boot_int (ma_cons (m_cmp op_eq snd_eq (m_var (pv 1)) m_str (by rfl)) ma_nil)))) (by intro _ _; rfl))))) ms_nil)
  (ms_cons (ms_if (mt_cmp op_eq snd_eq (m_var (pv 1)) m_str (by rfl)) (ms_one (ms_ret (m_call T.f__law_name hr0 (L2.takes_of rfl rfl rfl rfl) rfl (ma_cons (m_var (pv 0)) ma_nil)))) ms_nil)
  (ms_cons (ms_if (mt_cmp op_eq snd_eq (m_var (pv 1)) m_str (by rfl)) (ms_one (ms_ret (m_call T.f__law_written hr0 (L2.takes_of rfl rfl rfl rfl) rfl (ma_cons (m_var (pv 0)) ma_nil)))) ms_nil)
  (ms_cons (ms_set (i := 6) sc__law_item.nd rfl (by first | exact .inl rfl | exact .inr rfl) (m_op op_addM snd_add (m_call T.f__law_draw hr0 (L2.takes_of rfl rfl rfl rfl) rfl (ma_cons (m_var (pv 0)) (ma_cons (m_ix (ix_M (hu_of hr)) (snd_get T.gd) (m_disp (mps_cons m_str m_int (mps_cons m_str m_int (mps_cons m_str m_int mps_nil)))) (m_var (pv 1)) (by intro _ _; rfl)) ma_nil))) (m_callTy snd_int call_int1 rfl T.b_int boot_int (ma_cons (m_cmp op_eq snd_eq (m_var (pv 1)) m_str (by rfl)) ma_nil))))
  (ms_cons (ms_set (i := 7) sc__law_item.nd rfl (by first | exact .inl rfl | exact .inr rfl) (m_call T.f__law_draw hr0 (L2.takes_of rfl rfl rfl rfl) rfl (ma_cons (m_var (pv 0)) (ma_cons m_int ma_nil))))
  (ms_cons (ms_setLc (i := 5) (own := [(("k" : Str), 8)]) rfl sc__law_item.nd rfl rfl (sw_true rfl rfl rfl (by rfl)) (mi_range1 rfl T.b_range (m_var (pv 6))) (blkOk_by (by rfl)) (fun _ _ _ _ _ => (mgo_name (i := 8) (by decide) sc__law_item.nd rfl (by first | exact .inl rfl | exact .inr rfl))) (fun _ _ _ _ _ => mts_nil) (fun _ _ _ _ _ => (m_call T.f__law_expression hr0 takes0 rfl (ma_cons (m_var (pv 0)) (ma_cons (m_var (pv 2)) (ma_cons (m_var (pv 3)) (ma_cons (m_var (pv 4)) ma_nil)))))))
  (ms_one (ms_ret (m_ix (ix_M (hu_of hr)) (snd_get T.gd) (m_lst (ma_cons (m_var (pv 5)) (ma_cons (m_callTy snd_tuple call_tuple_of rfl T.b_tuple boot_tuple (ma_cons (m_var (pv 5)) ma_nil)) ma_nil))) (m_var (pv 7)) (by intro _ _; rfl)))))))))))))
abbrev N__law_expression : List Str := ["bag", "room", "depth", "kept", "shapes", "kind", "within", "row", "letter"]
theorem sc__law_expression : FnScope N__law_expression ["bag", "room", "depth", "kept"] (defScope s__law_expression) := ⟨rfl, rfl, rfl, by decide +kernel, rfl, by decide +kernel, by decide +kernel⟩
theorem d__law_expression {P : Program} {w : World} {K : PySem.W.Frag} {mg : Str → Option Value} {base : Heap} {k : Nat} {C : Fn → Cal} (T : TT P w K mg base k C) : Bod P w K mg base (k + 1) N__law_expression ("_law_expression" : Str) (defScope s__law_expression) (defBody s__law_expression) (b__law_expression C) := fun f cd A outer s H E hr => by
  have hr0 : Room k (dX P w K mg base N__law_expression ("_law_expression" : Str) (defScope s__law_expression) f cd A outer s H E).A := hr.mono (Nat.le_succ k)
  exact (ms_cons (ms_setIx (m_var (pv 1)) m_int (m_op op_sub snd_sub (m_ix (ix_M (hu_of hr)) (snd_get T.gd) (m_var (pv 1)) m_int (by intro _ _; rfl)) m_int) (set_M (hu_of hr)) snd_set)
  (ms_cons (ms_if (mw_pt (mw_or (mt_cmp op_le snd_cmp (m_var (pv 2)) m_int (by rfl)) (mw_or1 (mt_cmp op_le snd_cmp (m_ix (ix_M (hu_of hr)) (snd_get T.gd) (m_var (pv 1)) m_int (by intro _ _; rfl)) m_int (by rfl))))) (ms_one (ms_ret (m_call T.f__law_leaf hr0 (L2.takes_of rfl rfl rfl rfl) rfl (ma_cons (m_var (pv 0)) (ma_cons (m_var (pv 3)) ma_nil))))) ms_nil)
  (ms_cons (ms_set (i := 4) sc__law_expression.nd rfl (by first | exact .inl rfl | exact .inr rfl) (m_call0 T.f__law_shapes hr0 (L2.takes_of rfl rfl rfl rfl) rfl))
  (ms_cons (ms_set (i := 5) sc__law_expression.nd rfl (by first | exact .inl rfl | exact .inr rfl) (m_ix (ix_M (hu_of hr)) (snd_get T.gd) (m_callTy snd_list (call_listM rfl) rfl T.b_list boot_list (ma_cons (m_var (pv 4)) ma_nil)) (m_call T.f__law_draw hr0 (L2.takes_of rfl rfl rfl rfl) rfl (ma_cons (m_var (pv 0)) (ma_cons (m_callB snd_len call_lenM rfl T.b_len boot_len (ma_cons (m_var (pv 4)) ma_nil)) ma_nil))) (by intro _ _; rfl)))
  (ms_cons (ms_if (mw_pt (mw_and (mt_cmp op_eq snd_eq (m_var (pv 3)) m_int (by rfl)) (mw_and1 (mt_cmp (op_inM (hu_of hr)) (snd_in T.gd) (m_var (pv 5)) (m_lst (ma_cons m_str (ma_cons m_str (ma_cons m_str ma_nil)))) (by rfl))))) (ms_one (ms_set (i := 5) sc__law_expression.nd rfl (by first | exact .inl rfl | exact .inr rfl) m_str)) ms_nil)
  (ms_cons (ms_set (i := 6) sc__law_expression.nd rfl (by first | exact .inl rfl | exact .inr rfl) (m_callB snd_max (call_max2 rfl) rfl T.b_max boot_max (ma_cons (m_var (pv 3)) (ma_cons (m_callTy snd_int call_int1 rfl T.b_int boot_int (ma_cons (m_cmp op_eq snd_eq (m_var (pv 5)) m_str (by rfl)) ma_nil)) ma_nil))))
  (ms_cons (ms_set (i := 7) sc__law_expression.nd rfl (by first | exact .inl rfl | exact .inr rfl) (m_lst (ma_cons (m_var (pv 5)) ma_nil)))
  (ms_cons (ms_for (L2.passes_of rfl) rfl (mi_any (m_ix (ix_M (hu_of hr)) (snd_get T.gd) (m_var (pv 4)) (m_var (pv 5)) (by intro _ _; rfl))) (mg_name (i := 8) sc__law_expression.nd rfl (by first | exact .inl rfl | exact .inr rfl)) (ms_one (ms_expr (m_bm PySem.F.plainAttrs_list PySem.F.slot_list_append PySem.F.type_list_append mt_append snd_append (m_var (pv 7)) (ma_cons (m_call T.f__law_item hr0 (L2.takes_of rfl rfl rfl rfl) rfl (ma_cons (m_var (pv 0)) (ma_cons (m_var (pv 8)) (ma_cons (m_var (pv 1)) (ma_cons (m_op op_sub snd_sub (m_var (pv 2)) m_int) (ma_cons (m_var (pv 6)) ma_nil)))))) ma_nil)))))
  (ms_one (ms_ret (m_ix (ix_M (hu_of hr)) (snd_get T.gd) (m_lst (ma_cons (m_var (pv 7)) (ma_cons (m_callTy snd_tuple call_tuple_of rfl T.b_tuple boot_tuple (ma_cons (m_var (pv 7)) ma_nil)) ma_nil))) (m_callB snd_min (call_min2 rfl) rfl T.b_min boot_min (ma_cons (m_call T.f__law_draw hr0 (L2.takes_of rfl rfl rfl rfl) rfl (ma_cons (m_var (pv 0)) (ma_cons m_int ma_nil))) (ma_cons m_int ma_nil))) (by intro _ _; rfl))))))))))))
abbrev N__law_is_name : List Str := ["tree", "letter"]
theorem sc__law_is_name : FnScope N__law_is_name ["tree"] (defScope s__law_is_name) := ⟨rfl, rfl, rfl, by decide +kernel, rfl, by decide +kernel, by decide +kernel⟩
theorem d__law_is_name {P : Program} {w : World} {K : PySem.W.Frag} {mg : Str → Option Value} {base : Heap} {k : Nat} {C : Fn → Cal} (T : TT P w K mg base k C) : Bod P w K mg base (k + 1) N__law_is_name ("_law_is_name" : Str) (defScope s__law_is_name) (defBody s__law_is_name) (b__law_is_name C) := fun f cd A outer s H E hr => by
  have hr0 : Room k (dX P w K mg base N__law_is_name ("_law_is_name" : Str) (defScope s__law_is_name) f cd A outer s H E).A := hr.mono (Nat.le_succ k)
  exact (ms_cons (ms_if (mw_pt (mw_or (mt_not (mt_truth (m_callB snd_isi call_isiM rfl T.b_isinstance boot_isinstance (ma_cons (m_var (pv 0)) (ma_cons (m_ty rfl T.b_str boot_str) ma_nil))))) (mw_or (mt_cmp op_lt snd_cmp (m_callB snd_len call_lenM rfl T.b_len boot_len (ma_cons (m_var (pv 0)) ma_nil)) m_int (by rfl)) (mw_or (mt_cmp op_gt snd_cmp (m_callB snd_len call_lenM rfl T.b_len boot_len (ma_cons (m_var (pv 0)) ma_nil)) m_int (by rfl)) (mw_or1 (mt_cmp (op_inM (hu_of hr)) (snd_in T.gd) (m_var (pv 0)) (m_call0 T.f__law_words hr0 (L2.takes_of rfl rfl rfl rfl) rfl) (by rfl))))))) (ms_one (ms_ret m_bl)) ms_nil)
  (ms_one (ms_ret (m_callB snd_all (cr_all rfl) rfl T.b_all boot_all (ma_cons (m_lc (own := [(("letter" : Str), 1)]) rfl sc__law_is_name.nd (mi_any (m_var (pv 0))) (blkOk_by (by rfl)) (fun _ _ _ _ _ => (mgo_name (i := 1) (by decide) sc__law_is_name.nd rfl (by first | exact .inl rfl | exact .inr rfl))) (fun _ _ _ _ _ => mts_nil) (fun _ _ _ _ _ => (m_and (m_cmp op_le snd_cmp m_int (m_callB snd_ord call_ord rfl T.b_ord boot_ord (ma_cons (m_var (pv 1)) ma_nil)) (by rfl)) (m_one (m_cmp op_le snd_cmp (m_callB snd_ord call_ord rfl T.b_ord boot_ord (ma_cons (m_var (pv 1)) ma_nil)) m_int (by rfl)))))) ma_nil)))))
abbrev N__law_is_text : List Str := ["tree", "sign"]
theorem sc__law_is_text : FnScope N__law_is_text ["tree"] (defScope s__law_is_text) := ⟨rfl, rfl, rfl, by decide +kernel, rfl, by decide +kernel, by decide +kernel⟩
theorem d__law_is_text {P : Program} {w : World} {K : PySem.W.Frag} {mg : Str → Option Value} {base : Heap} {k : Nat} {C : Fn → Cal} (T : TT P w K mg base k C) : Bod P w K mg base (k + 1) N__law_is_text ("_law_is_text" : Str) (defScope s__law_is_text) (defBody s__law_is_text) (b__law_is_text C) := fun f cd A outer s H E hr => by
  have hr0 : Room k (dX P w K mg base N__law_is_text ("_law_is_text" : Str) (defScope s__law_is_text) f cd A outer s H E).A := hr.mono (Nat.le_succ k)
  exact (ms_cons (ms_if (mw_pt (mw_or (mt_not (mt_truth (m_callB snd_isi call_isiM rfl T.b_isinstance boot_isinstance (ma_cons (m_var (pv 0)) (ma_cons (m_ty rfl T.b_str boot_str) ma_nil))))) (mw_or1 (mt_cmp op_gt snd_cmp (m_callB snd_len call_lenM rfl T.b_len boot_len (ma_cons (m_var (pv 0)) ma_nil)) m_int (by rfl))))) (ms_one (ms_ret m_bl)) ms_nil)
  (ms_one (ms_ret (m_callB snd_all (cr_all rfl) rfl T.b_all boot_all (ma_cons (m_lc (own := [(("sign" : Str), 1)]) rfl sc__law_is_text.nd (mi_any (m_var (pv 0))) (blkOk_by (by rfl)) (fun _ _ _ _ _ => (mgo_name (i := 1) (by decide) sc__law_is_text.nd rfl (by first | exact .inl rfl | exact .inr rfl))) (fun _ _ _ _ _ => mts_nil) (fun _ _ _ _ _ => (m_and (m_cmp op_le snd_cmp m_int (m_callB snd_ord call_ord rfl T.b_ord boot_ord (ma_cons (m_var (pv 1)) ma_nil)) (by rfl)) (m_and (m_cmp op_le snd_cmp (m_callB snd_ord call_ord rfl T.b_ord boot_ord (ma_cons (m_var (pv 1)) ma_nil)) m_int (by rfl)) (m_and (m_cmp op_ne snd_ne (m_callB snd_ord call_ord rfl T.b_ord boot_ord (ma_cons (m_var (pv 1)) ma_nil)) m_int (by rfl)) (m_one (m_cmp op_ne snd_ne (m_callB snd_ord call_ord rfl T.b_ord boot_ord (ma_cons (m_var (pv 1)) ma_nil)) m_int (by rfl)))))))) ma_nil)))))
abbrev N__law_is_item : List Str := ["letter", "item", "room", "kept", "low", "high", "words", "piece"]
theorem sc__law_is_item : FnScope N__law_is_item ["letter", "item", "room", "kept"] (defScope s__law_is_item) := ⟨rfl, rfl, rfl, by decide +kernel, rfl, by decide +kernel, by decide +kernel⟩
theorem d__law_is_item {P : Program} {w : World} {K : PySem.W.Frag} {mg : Str → Option Value} {base : Heap} {k : Nat} {C : Fn → Cal} (T : TT P w K mg base k C) : Bod P w K mg base (k + 1) N__law_is_item ("_law_is_item" : Str) (defScope s__law_is_item) (defBody s__law_is_item) (b__law_is_item C) := fun f cd A outer s H E hr => by
  have hr0 : Room k (dX P w K mg base N__law_is_item ("_law_is_item" : Str) (defScope s__law_is_item) f cd A outer s H E).A := hr.mono (Nat.le_succ k)
  exact (ms_cons (ms_if (mt_cmp op_eq snd_eq (m_var (pv 0)) m_str (by rfl)) (ms_one (ms_ret (m_call T.f__law_is hr0 (L2.takes_of rfl rfl rfl rfl) rfl (ma_cons (m_var (pv 1)) (ma_cons (m_var (pv 2)) (ma_cons (m_var (pv 3)) ma_nil)))))) ms_nil)
  (ms_cons (ms_if (mt_cmp (op_inM (hu_of hr)) (snd_in T.gd) (m_var (pv 0)) m_str (by rfl)) (ms_cons (ms_par (i := 4) (j := 5) rfl sc__law_is_item.nd rfl rfl (by decide) rfl rfl (m_ix (ix_M (hu_of hr)) (snd_get T.gd) (m_lst (ma_cons (m_un un_neg snd_neg m_int) (ma_cons m_int ma_nil))) (m_callTy snd_int call_int1 rfl T.b_int boot_int (ma_cons (m_cmp op_eq snd_eq (m_var (pv 0)) m_str (by rfl)) ma_nil)) (by intro _ _; rfl)) (m_ix (ix_M (hu_of hr)) (snd_get T.gd) (m_lst (ma_cons m_int (ma_cons m_int ma_nil))) (m_callTy snd_int call_int1 rfl T.b_int boot_int (ma_cons (m_cmp op_eq snd_eq (m_var (pv 0)) m_str (by rfl)) ma_nil)) (by intro _ _; rfl)) (by rfl))
  (ms_one (ms_ret (m_and (m_callB snd_isi call_isiM rfl T.b_isinstance boot_isinstance (ma_cons (m_var (pv 1)) (ma_cons (m_ty rfl T.b_int boot_int) ma_nil))) (m_and (m_not (m_callB snd_isi call_isiM rfl T.b_isinstance boot_isinstance (ma_cons (m_var (pv 1)) (ma_cons (m_ty rfl T.b_bool boot_bool) ma_nil)))) (m_and (m_cmp op_le snd_cmp (m_var (pv 4)) (m_var (pv 1)) (by rfl)) (m_one (m_cmp op_le snd_cmp (m_var (pv 1)) (m_var (pv 5)) (by rfl))))))))) ms_nil)
  (ms_cons (ms_if (mt_cmp op_eq snd_eq (m_var (pv 0)) m_str (by rfl)) (ms_one (ms_ret (m_call T.f__law_is_name hr0 (L2.takes_of rfl rfl rfl rfl) rfl (ma_cons (m_var (pv 1)) ma_nil)))) ms_nil)
  (ms_cons (ms_if (mt_cmp op_eq snd_eq (m_var (pv 0)) m_str (by rfl)) (ms_one (ms_ret (m_call T.f__law_is_text hr0 (L2.takes_of rfl rfl rfl rfl) rfl (ma_cons (m_var (pv 1)) ma_nil)))) ms_nil)
  (ms_cons (ms_if (mt_cmp (op_inM (hu_of hr)) (snd_in T.gd) (m_var (pv 0)) m_str (by rfl)) (ms_cons (ms_set (i := 6) sc__law_is_item.nd rfl (by first | exact .inl rfl | exact .inr rfl) (m_ix (ix_M (hu_of hr)) (snd_get T.gd) (m_disp (mps_cons m_str (m_lst (ma_cons m_str (ma_cons m_str (ma_cons m_str (ma_cons m_str (ma_cons m_str (ma_cons m_str ma_nil))))))) (mps_cons m_str (m_lst (ma_cons m_str (ma_cons m_str (ma_cons m_str (ma_cons m_str (ma_cons m_str (ma_cons m_str ma_nil))))))) mps_nil))) (m_var (pv 0)) (by intro _ _; rfl)))
  (ms_one (ms_ret (m_and (m_callB snd_isi call_isiM rfl T.b_isinstance boot_isinstance (ma_cons (m_var (pv 1)) (ma_cons (m_ty rfl T.b_str boot_str) ma_nil))) (m_one (m_cmp (op_inM (hu_of hr)) (snd_in T.gd) (m_var (pv 1)) (m_var (pv 6)) (by rfl))))))) ms_nil)
  (ms_cons (ms_if (mw_pt (mw_or (mt_not (mt_truth (m_callB snd_isi call_isiM rfl T.b_isinstance boot_isinstance (ma_cons (m_var (pv 1)) (ma_cons (m_tup (ma_cons (m_ty rfl T.b_list boot_list) (ma_cons (m_ty rfl T.b_tuple boot_tuple) ma_nil))) ma_nil))))) (mw_or1 (mt_cmp op_gt snd_cmp (m_callB snd_len call_lenM rfl T.b_len boot_len (ma_cons (m_var (pv 1)) ma_nil)) (m_ix (ix_M (hu_of hr)) (snd_get T.gd) (m_disp (mps_cons m_str m_int (mps_cons m_str m_int (mps_cons m_str m_int mps_nil)))) (m_var (pv 0)) (by intro _ _; rfl)) (by rfl))))) (ms_one (ms_ret m_bl)) ms_nil)
  (ms_cons (ms_for (L2.passes_of rfl) rfl (mi_any (m_var (pv 1))) (mg_name (i := 7) sc__law_is_item.nd rfl (by first | exact .inl rfl | exact .inr rfl)) (ms_one (ms_if (mt_not (mt_truth (m_call T.f__law_is hr0 (L2.takes_of rfl rfl rfl rfl) rfl (ma_cons (m_var (pv 7)) (ma_cons (m_var (pv 2)) (ma_cons (m_var (pv 3)) ma_nil)))))) (ms_one (ms_ret m_bl)) ms_nil)))
  (ms_one (ms_ret (m_or (m_cmp op_ne snd_ne (m_var (pv 0)) m_str (by rfl)) (m_one (m_cmp op_gt snd_cmp (m_callB snd_len call_lenM rfl T.b_len boot_len (ma_cons (m_var (pv 1)) ma_nil)) m_int (by rfl)))))))))))))
abbrev N__law_is : List Str := ["tree", "room", "kept", "shapes", "kind", "k"]
theorem sc__law_is : FnScope N__law_is ["tree", "room", "kept"] (defScope s__law_is) := ⟨rfl, rfl, rfl, by decide +kernel, rfl, by decide +kernel, by decide +kernel⟩
theorem d__law_is {P : Program} {w : World} {K : PySem.W.Frag} {mg : Str → Option Value} {base : Heap} {k : Nat} {C : Fn → Cal} (T : TT P w K mg base k C) : Bod P w K mg base (k + 1) N__law_is ("_law_is" : Str) (defScope s__law_is) (defBody s__law_is) (b__law_is C) := fun f cd A outer s H E hr => by
  have hr0 : Room k (dX P w K mg base N__law_is ("_law_is" : Str) (defScope s__law_is) f cd A outer s H E).A := hr.mono (Nat.le_succ k)
  exact (ms_cons (ms_if (mw_pt (mw_or (mt_not (mt_truth (m_callB snd_isi call_isiM rfl T.b_isinstance boot_isinstance (ma_cons (m_var (pv 0)) (ma_cons (m_tup (ma_cons (m_ty rfl T.b_list boot_list) (ma_cons (m_ty rfl T.b_tuple boot_tuple) ma_nil))) ma_nil))))) (mw_or (mt_cmp op_eq snd_eq (m_callB snd_len call_lenM rfl T.b_len boot_len (ma_cons (m_var (pv 0)) ma_nil)) m_int (by rfl)) (mw_or1 (mt_cmp op_lt snd_cmp (m_var (pv 1)) m_int (by rfl)))))) (ms_one (ms_ret m_bl)) ms_nil)
  (ms_cons (ms_set (i := 3) sc__law_is.nd rfl (by first | exact .inl rfl | exact .inr rfl) (m_call0 T.f__law_shapes hr0 (L2.takes_of rfl rfl rfl rfl) rfl))
  (ms_cons (ms_set (i := 4) sc__law_is.nd rfl (by first | exact .inl rfl | exact .inr rfl) (m_ix (ix_M (hu_of hr)) (snd_get T.gd) (m_var (pv 0)) m_int (by intro _ _; rfl)))
  (ms_cons (ms_if (mw_pt (mw_or (mt_not (mt_truth (m_callB snd_isi call_isiM rfl T.b_isinstance boot_isinstance (ma_cons (m_var (pv 4)) (ma_cons (m_ty rfl T.b_str boot_str) ma_nil))))) (mw_or (mt_cmp (op_notInM (hu_of hr)) (snd_notIn T.gd) (m_var (pv 4)) (m_var (pv 3)) (by rfl)) (mw_or1 (mt_cmp op_ne snd_ne (m_callB snd_len call_lenM rfl T.b_len boot_len (ma_cons (m_var (pv 0)) ma_nil)) (m_op op_addM snd_add (m_callB snd_len call_lenM rfl T.b_len boot_len (ma_cons (m_ix (ix_M (hu_of hr)) (snd_get T.gd) (m_var (pv 3)) (m_var (pv 4)) (by intro _ _; rfl)) ma_nil)) m_int) (by rfl)))))) (ms_one (ms_ret m_bl)) ms_nil)
  (ms_cons (ms_if (mw_pt (mw_and (mt_truth (m_var (pv 2))) (mw_and1 (mt_cmp (op_inM (hu_of hr)) (snd_in T.gd) (m_var (pv 4)) (m_lst (ma_cons m_str (ma_cons m_str (ma_cons m_str ma_nil)))) (by rfl))))) (ms_one (ms_ret m_bl)) ms_nil)
  (ms_cons (ms_for (L2.passes_of rfl) rfl (mi_range1 rfl T.b_range (m_callB snd_len call_lenM rfl T.b_len boot_len (ma_cons (m_ix (ix_M (hu_of hr)) (snd_get T.gd) (m_var (pv 3)) (m_var (pv 4)) (by intro _ _; rfl)) ma_nil))) (mg_name (i := 5) sc__law_is.nd rfl (by first | exact .inl rfl | exact .inr rfl)) (ms_one (ms_if (mt_not (mt_truth (m_call T.f__law_is_item hr0 (L2.takes_of rfl rfl rfl rfl) rfl (ma_cons (m_ix (ix_M (hu_of hr)) (snd_get T.gd) (m_ix (ix_M (hu_of hr)) (snd_get T.gd) (m_var (pv 3)) (m_var (pv 4)) (by intro _ _; rfl)) (m_var (pv 5)) (by intro _ _; rfl)) (ma_cons (m_ix (ix_M (hu_of hr)) (snd_get T.gd) (m_var (pv 0)) (m_op op_addM snd_add (m_var (pv 5)) m_int) (by intro _ _; rfl)) (ma_cons (m_op op_sub snd_sub (m_var (pv 1)) m_int) (ma_cons (m_or (m_var (pv 2)) (m_one (m_cmp op_eq snd_eq (m_var (pv 4)) m_str (by rfl)))) ma_nil))))))) (ms_one (ms_ret m_bl)) ms_nil)))
  (ms_one (ms_ret m_bl))))))))
abbrev N__law_parts : List Str := ["tree", "parts", "shape", "k"]
theorem sc__law_parts : FnScope N__law_parts ["tree"] (defScope s__law_parts) := ⟨rfl, rfl, rfl, by decide +kernel, rfl, by decide +kernel, by decide +kernel⟩
theorem d__law_parts {P : Program} {w : World} {K : PySem.W.Frag} {mg : Str → Option Value} {base : Heap} {k : Nat} {C : Fn → Cal} (T : TT P w K mg base k C) : Bod P w K mg base (k + 1) N__law_parts ("_law_parts" : Str) (defScope s__law_parts) (defBody s__law_parts) (b__law_parts C) := fun f cd A outer s H E hr => by
  have hr0 : Room k (dX P w K mg base N__law_parts ("_law_parts" : Str) (defScope s__law_parts) f cd A outer s H E).A := hr.mono (Nat.le_succ k)
  exact (ms_cons (ms_set (i := 1) sc__law_parts.nd rfl (by first | exact .inl rfl | exact .inr rfl) (m_lst ma_nil))
  (ms_cons (ms_set (i := 2) sc__law_parts.nd rfl (by first | exact .inl rfl | exact .inr rfl) (m_ix (ix_M (hu_of hr)) (snd_get T.gd) (m_call0 T.f__law_shapes hr0 (L2.takes_of rfl rfl rfl rfl) rfl) (m_ix (ix_M (hu_of hr)) (snd_get T.gd) (m_var (pv 0)) m_int (by intro _ _; rfl)) (by intro _ _; rfl)))
  (ms_cons (ms_for (L2.passes_of rfl) rfl (mi_range1 rfl T.b_range (m_callB snd_len call_lenM rfl T.b_len boot_len (ma_cons (m_var (pv 2)) ma_nil))) (mg_name (i := 3) sc__law_parts.nd rfl (by first | exact .inl rfl | exact .inr rfl)) (ms_one (ms_if (mt_cmp op_eq snd_eq (m_ix (ix_M (hu_of hr)) (snd_get T.gd) (m_var (pv 2)) (m_var (pv 3)) (by intro _ _; rfl)) m_str (by rfl)) (ms_one (ms_expr (m_bm PySem.F.plainAttrs_list PySem.F.slot_list_append PySem.F.type_list_append mt_append snd_append (m_var (pv 1)) (ma_cons (m_ix (ix_M (hu_of hr)) (snd_get T.gd) (m_var (pv 0)) (m_op op_addM snd_add (m_var (pv 3)) m_int) (by intro _ _; rfl)) ma_nil)))) (ms_one (ms_if (mt_cmp (op_inM (hu_of hr)) (snd_in T.gd) (m_ix (ix_M (hu_of hr)) (snd_get T.gd) (m_var (pv 2)) (m_var (pv 3)) (by intro _ _; rfl)) m_str (by rfl)) (ms_one (ms_expr (m_bm PySem.F.plainAttrs_list PySem.F.slot_list_extend PySem.F.type_list_extend mt_extM snd_extM (m_var (pv 1)) (ma_cons (m_ix (ix_M (hu_of hr)) (snd_get T.gd) (m_var (pv 0)) (m_op op_addM snd_add (m_var (pv 3)) m_int) (by intro _ _; rfl)) ma_nil)))) ms_nil)))))
  (ms_one (ms_ret (m_var (pv 1)))))))
abbrev N__law_walk : List Str := ["tree", "way", "rows", "parts", "k"]
theorem sc__law_walk : FnScope N__law_walk ["tree", "way"] (defScope s__law_walk) := ⟨rfl, rfl, rfl, by decide +kernel, rfl, by decide +kernel, by decide +kernel⟩
theorem d__law_walk {P : Program} {w : World} {K : PySem.W.Frag} {mg : Str → Option Value} {base : Heap} {k : Nat} {C : Fn → Cal} (T : TT P w K mg base k C) : Bod P w K mg base (k + 1) N__law_walk ("_law_walk" : Str) (defScope s__law_walk) (defBody s__law_walk) (b__law_walk C) := fun f cd A outer s H E hr => by
  have hr0 : Room k (dX P w K mg base N__law_walk ("_law_walk" : Str) (defScope s__law_walk) f cd A outer s H E).A := hr.mono (Nat.le_succ k)
  exact (ms_cons (ms_set (i := 2) sc__law_walk.nd rfl (by first | exact .inl rfl | exact .inr rfl) (m_lst (ma_cons (m_tup (ma_cons (m_var (pv 1)) (ma_cons (m_var (pv 0)) ma_nil))) ma_nil)))
  (ms_cons (ms_set (i := 3) sc__law_walk.nd rfl (by first | exact .inl rfl | exact .inr rfl) (m_call T.f__law_parts hr0 (L2.takes_of rfl rfl rfl rfl) rfl (ma_cons (m_var (pv 0)) ma_nil)))
  (ms_cons (ms_for (L2.passes_of rfl) rfl (mi_range1 rfl T.b_range (m_callB snd_len call_lenM rfl T.b_len boot_len (ma_cons (m_var (pv 3)) ma_nil))) (mg_name (i := 4) sc__law_walk.nd rfl (by first | exact .inl rfl | exact .inr rfl)) (ms_one (ms_expr (m_bm PySem.F.plainAttrs_list PySem.F.slot_list_extend PySem.F.type_list_extend mt_extM snd_extM (m_var (pv 2)) (ma_cons (m_call T.f__law_walk hr0 (L2.takes_of rfl rfl rfl rfl) rfl (ma_cons (m_ix (ix_M (hu_of hr)) (snd_get T.gd) (m_var (pv 3)) (m_var (pv 4)) (by intro _ _; rfl)) (ma_cons (m_op op_addM snd_add (m_var (pv 1)) (m_tup (ma_cons (m_var (pv 4)) ma_nil))) ma_nil))) ma_nil)))))
  (ms_one (ms_ret (m_var (pv 2)))))))
abbrev N__law_with : List Str := ["tree", "way", "piece", "row", "shape", "many", "k", "inner"]
theorem sc__law_with : FnScope N__law_with ["tree", "way", "piece"] (defScope s__law_with) := ⟨rfl, rfl, rfl, by decide +kernel, rfl, by decide +kernel, by decide +kernel⟩
theorem d__law_with {P : Program} {w : World} {K : PySem.W.Frag} {mg : Str → Option Value} {base : Heap} {k : Nat} {C : Fn → Cal} (T : TT P w K mg base k C) : Bod P w K mg base (k + 1) N__law_with ("_law_with" : Str) (defScope s__law_with) (defBody s__law_with) (b__law_with C) := fun f cd A outer s H E hr => by
  have hr0 : Room k (dX P w K mg base N__law_with ("_law_with" : Str) (defScope s__law_with) f cd A outer s H E).A := hr.mono (Nat.le_succ k)
  exact (ms_cons (ms_if (mt_cmp op_eq snd_eq (m_callB snd_len call_lenM rfl T.b_len boot_len (ma_cons (m_var (pv 1)) ma_nil)) m_int (by rfl)) (ms_one (ms_ret (m_var (pv 2)))) ms_nil)
  (ms_cons (ms_set (i := 3) sc__law_with.nd rfl (by first | exact .inl rfl | exact .inr rfl) (m_callTy snd_list (call_listM rfl) rfl T.b_list boot_list (ma_cons (m_var (pv 0)) ma_nil)))
  (ms_cons (ms_set (i := 4) sc__law_with.nd rfl (by first | exact .inl rfl | exact .inr rfl) (m_ix (ix_M (hu_of hr)) (snd_get T.gd) (m_call0 T.f__law_shapes hr0 (L2.takes_of rfl rfl rfl rfl) rfl) (m_ix (ix_M (hu_of hr)) (snd_get T.gd) (m_var (pv 0)) m_int (by intro _ _; rfl)) (by intro _ _; rfl)))
  (ms_cons (ms_set (i := 5) sc__law_with.nd rfl (by first | exact .inl rfl | exact .inr rfl) (m_ix (ix_M (hu_of hr)) (snd_get T.gd) (m_var (pv 1)) m_int (by intro _ _; rfl)))
  (ms_cons (ms_for (L2.passes_of rfl) rfl (mi_range1 rfl T.b_range (m_callB snd_len call_lenM rfl T.b_len boot_len (ma_cons (m_var (pv 4)) ma_nil))) (mg_name (i := 6) sc__law_with.nd rfl (by first | exact .inl rfl | exact .inr rfl)) (ms_cons (ms_set (i := 7) sc__law_with.nd rfl (by first | exact .inl rfl | exact .inr rfl) (m_lst ma_nil))
  (ms_cons (ms_if (mt_cmp op_eq snd_eq (m_ix (ix_M (hu_of hr)) (snd_get T.gd) (m_var (pv 4)) (m_var (pv 6)) (by intro _ _; rfl)) m_str (by rfl)) (ms_one (ms_set (i := 7) sc__law_with.nd rfl (by first | exact .inl rfl | exact .inr rfl) (m_lst (ma_cons (m_ix (ix_M (hu_of hr)) (snd_get T.gd) (m_var (pv 0)) (m_op op_addM snd_add (m_var (pv 6)) m_int) (by intro _ _; rfl)) ma_nil)))) (ms_one (ms_if (mt_cmp (op_inM (hu_of hr)) (snd_in T.gd) (m_ix (ix_M (hu_of hr)) (snd_get T.gd) (m_var (pv 4)) (m_var (pv 6)) (by intro _ _; rfl)) m_str (by rfl)) (ms_one (ms_set (i := 7) sc__law_with.nd rfl (by first | exact .inl rfl | exact .inr rfl) (m_callTy snd_list (call_listM rfl) rfl T.b_list boot_list (ma_cons (m_ix (ix_M (hu_of hr)) (snd_get T.gd) (m_var (pv 0)) (m_op op_addM snd_add (m_var (pv 6)) m_int) (by intro _ _; rfl)) ma_nil)))) ms_nil)))
  (ms_cons (ms_if (mw_pt (mw_and (mt_cmp op_le snd_cmp m_int (m_var (pv 5)) (by rfl)) (mw_and1 (mt_cmp op_lt snd_cmp (m_var (pv 5)) (m_callB snd_len call_lenM rfl T.b_len boot_len (ma_cons (m_var (pv 7)) ma_nil)) (by rfl))))) (ms_cons (ms_setIx (m_var (pv 7)) (m_var (pv 5)) (m_call T.f__law_with hr0 (L2.takes_of rfl rfl rfl rfl) rfl (ma_cons (m_ix (ix_M (hu_of hr)) (snd_get T.gd) (m_var (pv 7)) (m_var (pv 5)) (by intro _ _; rfl)) (ma_cons (m_cut (m_var (pv 1)) (mo_some m_int) mo_none) (ma_cons (m_var (pv 2)) ma_nil)))) (set_M (hu_of hr)) snd_set)
  (ms_one (ms_setIx (m_var (pv 3)) (m_op op_addM snd_add (m_var (pv 6)) m_int) (m_ix (ix_M (hu_of hr)) (snd_get T.gd) (m_lst (ma_cons (m_callTy snd_tuple call_tuple_of rfl T.b_tuple boot_tuple (ma_cons (m_var (pv 7)) ma_nil)) (ma_cons (m_ix (ix_M (hu_of hr)) (snd_get T.gd) (m_var (pv 7)) m_int (by intro _ _; rfl)) ma_nil))) (m_callTy snd_int call_int1 rfl T.b_int boot_int (ma_cons (m_cmp op_eq snd_eq (m_ix (ix_M (hu_of hr)) (snd_get T.gd) (m_var (pv 4)) (m_var (pv 6)) (by intro _ _; rfl)) m_str (by rfl)) ma_nil)) (by intro _ _; rfl)) (set_M (hu_of hr)) snd_set))) ms_nil)
  (ms_one (ms_set (i := 5) sc__law_with.nd rfl (by first | exact .inl rfl | exact .inr rfl) (m_op op_sub snd_sub (m_var (pv 5)) (m_callB snd_len call_lenM rfl T.b_len boot_len (ma_cons (m_var (pv 7)) ma_nil)))))))))
  (ms_one (ms_ret (m_callTy snd_tuple call_tuple_of rfl T.b_tuple boot_tuple (ma_cons (m_var (pv 3)) ma_nil)))))))))
abbrev N__law_texts : List Str := ["parts", "piece"]
theorem sc__law_texts : FnScope N__law_texts ["parts"] (defScope s__law_texts) := ⟨rfl, rfl, rfl, by decide +kernel, rfl, by decide +kernel, by decide +kernel⟩
theorem d__law_texts {P : Program} {w : World} {K : PySem.W.Frag} {mg : Str → Option Value} {base : Heap} {k : Nat} {C : Fn → Cal} (T : TT P w K mg base k C) : Bod P w K mg base (k + 1) N__law_texts ("_law_texts" : Str) (defScope s__law_texts) (defBody s__law_texts) (b__law_texts C) := fun f cd A outer s H E hr => by
  have hr0 : Room k (dX P w K mg base N__law_texts ("_law_texts" : Str) (defScope s__law_texts) f cd A outer s H E).A := hr.mono (Nat.le_succ k)
  exact (ms_one (ms_ret (m_bm PySem.F.plainAttrs_str PySem.F.slot_str_join PySem.F.type_str_join mt_join snd_join m_str (ma_cons (m_lc (own := [(("piece" : Str), 1)]) rfl sc__law_texts.nd (mi_any (m_var (pv 0))) (blkOk_by (by rfl)) (fun _ _ _ _ _ => (mgo_name (i := 1) (by decide) sc__law_texts.nd rfl (by first | exact .inl rfl | exact .inr rfl))) (fun _ _ _ _ _ => mts_nil) (fun _ _ _ _ _ => (m_call T.f__law_text hr0 takes0 rfl (ma_cons (m_var (pv 1)) ma_nil)))) ma_nil))))
abbrev N__law_text : List Str := ["tree", "kind", "sign"]
theorem sc__law_text : FnScope N__law_text ["tree"] (defScope s__law_text) := ⟨rfl, rfl, rfl, by decide +kernel, rfl, by decide +kernel, by decide +kernel⟩
theorem d__law_text {P : Program} {w : World} {K : PySem.W.Frag} {mg : Str → Option Value} {base : Heap} {k : Nat} {C : Fn → Cal} (T : TT P w K mg base k C) : Bod P w K mg base (k + 1) N__law_text ("_law_text" : Str) (defScope s__law_text) (defBody s__law_text) (b__law_text C) := fun f cd A outer s H E hr => by
  have hr0 : Room k (dX P w K mg base N__law_text ("_law_text" : Str) (defScope s__law_text) f cd A outer s H E).A := hr.mono (Nat.le_succ k)
  exact (ms_cons (ms_set (i := 1) sc__law_text.nd rfl (by first | exact .inl rfl | exact .inr rfl) (m_ix (ix_M (hu_of hr)) (snd_get T.gd) (m_var (pv 0)) m_int (by intro _ _; rfl)))
  (ms_cons (ms_if (mt_cmp (op_inM (hu_of hr)) (snd_in T.gd) (m_var (pv 1)) (m_lst (ma_cons m_str (ma_cons m_str (ma_cons m_str ma_nil)))) (by rfl)) (ms_one (ms_ret (m_var (pv 1)))) ms_nil)
  (ms_cons (ms_if (mt_cmp (op_inM (hu_of hr)) (snd_in T.gd) (m_var (pv 1)) (m_lst (ma_cons m_str (ma_cons m_str ma_nil))) (by rfl)) (ms_one (ms_ret (m_callTy snd_str call_strM rfl T.b_str boot_str (ma_cons (m_ix (ix_M (hu_of hr)) (snd_get T.gd) (m_var (pv 0)) m_int (by intro _ _; rfl)) ma_nil)))) ms_nil)
  (ms_cons (ms_if (mt_cmp op_eq snd_eq (m_var (pv 1)) m_str (by rfl)) (ms_one (ms_ret (m_op op_addM snd_add (m_op op_addM snd_add m_str (m_ix (ix_M (hu_of hr)) (snd_get T.gd) (m_var (pv 0)) m_int (by intro _ _; rfl))) m_str))) ms_nil)
  (ms_cons (ms_if (mt_cmp op_eq snd_eq (m_var (pv 1)) m_str (by rfl)) (ms_one (ms_ret (m_op op_addM snd_add (m_op op_addM snd_add m_str (m_call T.f__law_texts hr0 (L2.takes_of rfl rfl rfl rfl) rfl (ma_cons (m_ix (ix_M (hu_of hr)) (snd_get T.gd) (m_var (pv 0)) m_int (by intro _ _; rfl)) ma_nil))) m_str))) ms_nil)
  (ms_cons (ms_if (mt_cmp (op_inM (hu_of hr)) (snd_in T.gd) (m_var (pv 1)) (m_lst (ma_cons m_str (ma_cons m_str ma_nil))) (by rfl)) (ms_one (ms_ret (m_op op_addM snd_add (m_op op_addM snd_add (m_op op_addM snd_add (m_op op_addM snd_add (m_op op_addM snd_add (m_op op_addM snd_add m_str (m_call T.f__law_text hr0 (L2.takes_of rfl rfl rfl rfl) rfl (ma_cons (m_ix (ix_M (hu_of hr)) (snd_get T.gd) (m_var (pv 0)) m_int (by intro _ _; rfl)) ma_nil))) m_str) (m_ix (ix_M (hu_of hr)) (snd_get T.gd) (m_var (pv 0)) m_int (by intro _ _; rfl))) m_str) (m_call T.f__law_text hr0 (L2.takes_of rfl rfl rfl rfl) rfl (ma_cons (m_ix (ix_M (hu_of hr)) (snd_get T.gd) (m_var (pv 0)) m_int (by intro _ _; rfl)) ma_nil))) m_str))) ms_nil)
  (ms_cons (ms_if (mt_cmp (op_inM (hu_of hr)) (snd_in T.gd) (m_var (pv 1)) (m_lst (ma_cons m_str (ma_cons m_str (ma_cons m_str ma_nil)))) (by rfl)) (ms_cons (ms_set (i := 2) sc__law_text.nd rfl (by first | exact .inl rfl | exact .inr rfl) (m_ix (ix_M (hu_of hr)) (snd_get T.gd) (m_disp (mps_cons m_str m_str (mps_cons m_str m_str (mps_cons m_str m_str mps_nil)))) (m_var (pv 1)) (by intro _ _; rfl)))
  (ms_one (ms_ret (m_op op_addM snd_add (m_op op_addM snd_add (m_op op_addM snd_add (m_op op_addM snd_add m_str (m_call T.f__law_text hr0 (L2.takes_of rfl rfl rfl rfl) rfl (ma_cons (m_ix (ix_M (hu_of hr)) (snd_get T.gd) (m_var (pv 0)) m_int (by intro _ _; rfl)) ma_nil))) (m_var (pv 2))) (m_call T.f__law_text hr0 (L2.takes_of rfl rfl rfl rfl) rfl (ma_cons (m_ix (ix_M (hu_of hr)) (snd_get T.gd) (m_var (pv 0)) m_int (by intro _ _; rfl)) ma_nil))) m_str)))) ms_nil)
  (ms_cons (ms_if (mt_cmp (op_inM (hu_of hr)) (snd_in T.gd) (m_var (pv 1)) (m_lst (ma_cons m_str (ma_cons m_str ma_nil))) (by rfl)) (ms_one (ms_ret (m_op op_addM snd_add (m_op op_addM snd_add (m_op op_addM snd_add (m_op op_addM snd_add m_str (m_ix (ix_M (hu_of hr)) (snd_get T.gd) (m_var (pv 0)) m_int (by intro _ _; rfl))) (m_ix (ix_M (hu_of hr)) (snd_get T.gd) (m_disp (mps_cons m_str m_str (mps_cons m_str m_str mps_nil))) (m_var (pv 1)) (by intro _ _; rfl))) (m_call T.f__law_text hr0 (L2.takes_of rfl rfl rfl rfl) rfl (ma_cons (m_ix (ix_M (hu_of hr)) (snd_get T.gd) (m_var (pv 0)) m_int (by intro _ _; rfl)) ma_nil))) m_str))) ms_nil)
  (ms_cons (ms_if (mt_cmp op_eq snd_eq (m_var (pv 1)) m_str (by rfl)) (ms_one (ms_ret (m_op op_addM snd_add (m_op op_addM snd_add (m_op op_addM snd_add (m_op op_addM snd_add m_str (m_callTy snd_str call_strM rfl T.b_str boot_str (ma_cons (m_ix (ix_M (hu_of hr)) (snd_get T.gd) (m_var (pv 0)) m_int (by intro _ _; rfl)) ma_nil))) m_str) (m_call T.f__law_text hr0 (L2.takes_of rfl rfl rfl rfl) rfl (ma_cons (m_ix (ix_M (hu_of hr)) (snd_get T.gd) (m_var (pv 0)) m_int (by intro _ _; rfl)) ma_nil))) m_str))) ms_nil)
  (ms_cons (ms_if (mt_cmp op_eq snd_eq (m_var (pv 1)) m_str (by rfl)) (ms_one (ms_ret (m_op op_addM snd_add (m_op op_addM snd_add m_str (m_call T.f__law_texts hr0 (L2.takes_of rfl rfl rfl rfl) rfl (ma_cons (m_ix (ix_M (hu_of hr)) (snd_get T.gd) (m_var (pv 0)) m_int (by intro _ _; rfl)) ma_nil))) m_str))) ms_nil)
  (ms_cons (ms_if (mt_cmp op_eq snd_eq (m_var (pv 1)) m_str (by rfl)) (ms_one (ms_ret (m_op op_addM snd_add (m_op op_addM snd_add m_str (m_call T.f__law_texts hr0 (L2.takes_of rfl rfl rfl rfl) rfl (ma_cons (m_op op_addM snd_add (m_lst (ma_cons (m_ix (ix_M (hu_of hr)) (snd_get T.gd) (m_var (pv 0)) m_int (by intro _ _; rfl)) ma_nil)) (m_callTy snd_list (call_listM rfl) rfl T.b_list boot_list (ma_cons (m_ix (ix_M (hu_of hr)) (snd_get T.gd) (m_var (pv 0)) m_int (by intro _ _; rfl)) ma_nil))) ma_nil))) m_str))) ms_nil)
  (ms_one (ms_ret (m_op op_addM snd_add (m_op op_addM snd_add (m_op op_addM snd_add (m_var (pv 1)) m_str) (m_call T.f__law_texts hr0 (L2.takes_of rfl rfl rfl rfl) rfl (ma_cons (m_cut (m_var (pv 0)) (mo_some m_int) mo_none) ma_nil))) m_str))))))))))))))
abbrev N__law_odd : List Str := ["bag", "choice", "turn", "here", "row"]
theorem sc__law_odd : FnScope N__law_odd ["bag"] (defScope s__law_odd) := ⟨rfl, rfl, rfl, by decide +kernel, rfl, by decide +kernel, by decide +kernel⟩
theorem d__law_odd {P : Program} {w : World} {K : PySem.W.Frag} {mg : Str → Option Value} {base : Heap} {k : Nat} {C : Fn → Cal} (T : TT P w K mg base k C) : Bod P w K mg base (k + 1) N__law_odd ("_law_odd" : Str) (defScope s__law_odd) (defBody s__law_odd) (b__law_odd C) := fun f cd A outer s H E hr => by
  have hr0 : Room k (dX P w K mg base N__law_odd ("_law_odd" : Str) (defScope s__law_odd) f cd A outer s H E).A := hr.mono (Nat.le_succ k)
  exact (ms_cons (ms_set (i := 1) sc__law_odd.nd rfl (by first | exact .inl rfl | exact .inr rfl) (m_call T.f__law_draw hr0 (L2.takes_of rfl rfl rfl rfl) rfl (ma_cons (m_var (pv 0)) (ma_cons m_int ma_nil))))
  (ms_cons (ms_set (i := 2) sc__law_odd.nd rfl (by first | exact .inl rfl | exact .inr rfl) (m_call T.f__law_draw hr0 (L2.takes_of rfl rfl rfl rfl) rfl (ma_cons (m_var (pv 0)) (ma_cons m_int ma_nil))))
  (ms_cons (ms_set (i := 3) sc__law_odd.nd rfl (by first | exact .inl rfl | exact .inr rfl) (m_tup (ma_cons m_str ma_nil)))
  (ms_cons (ms_if (mt_cmp op_eq snd_eq (m_var (pv 1)) m_int (by rfl)) (ms_cons (ms_set (i := 4) sc__law_odd.nd rfl (by first | exact .inl rfl | exact .inr rfl) (m_lst (ma_cons (m_tup (ma_cons m_str (ma_cons (m_op op_sub snd_sub (m_call T.f__law_draw hr0 (L2.takes_of rfl rfl rfl rfl) rfl (ma_cons (m_var (pv 0)) (ma_cons m_int ma_nil))) m_int) ma_nil))) (ma_cons (m_tup (ma_cons m_str (ma_cons (m_call T.f__law_letters hr0 (L2.takes_of rfl rfl rfl rfl) rfl (ma_cons (m_var (pv 0)) (ma_cons (m_op op_fdiv snd_fdiv (m_var (pv 2)) m_int) ma_nil))) ma_nil))) (ma_cons (m_tup (ma_cons m_str (ma_cons (m_op op_sub snd_sub (m_var (pv 2)) m_int) (ma_cons (m_var (pv 3)) ma_nil)))) ma_nil)))))
  (ms_cons (ms_set (i := 4) sc__law_odd.nd rfl (by first | exact .inl rfl | exact .inr rfl) (m_op op_addM snd_add (m_var (pv 4)) (m_lst (ma_cons (m_tup (ma_cons m_str (ma_cons (m_ix (ix_M (hu_of hr)) (snd_get T.gd) (m_call0 T.f__law_words hr0 (L2.takes_of rfl rfl rfl rfl) rfl) (m_call T.f__law_draw hr0 (L2.takes_of rfl rfl rfl rfl) rfl (ma_cons (m_var (pv 0)) (ma_cons m_int ma_nil))) (by intro _ _; rfl)) ma_nil))) (ma_cons (m_tup (ma_cons m_str (ma_cons (m_op op_mulM snd_mul m_str (m_op op_fdiv snd_fdiv (m_var (pv 2)) m_int)) ma_nil))) (ma_cons (m_tup (ma_cons m_str (ma_cons m_str ma_nil))) ma_nil))))))
  (ms_one (ms_set (i := 4) sc__law_odd.nd rfl (by first | exact .inl rfl | exact .inr rfl) (m_op op_addM snd_add (m_var (pv 4)) (m_lst (ma_cons (m_tup (ma_cons m_str (ma_cons m_str ma_nil))) (ma_cons (m_tup (ma_cons m_str (ma_cons m_str ma_nil))) (ma_cons (m_tup (ma_cons m_str (ma_cons m_str ma_nil))) (ma_cons (m_tup (ma_cons m_str (ma_cons m_int ma_nil))) (ma_cons (m_tup (ma_cons m_str (ma_cons (m_un un_neg snd_neg m_int) ma_nil))) (ma_cons (m_tup (ma_cons m_str (ma_cons m_int (ma_cons (m_lst (ma_cons (m_var (pv 3)) ma_nil)) ma_nil)))) ma_nil)))))))))))) (ms_one (ms_if (mt_cmp op_eq snd_eq (m_var (pv 1)) m_int (by rfl)) (ms_cons (ms_set (i := 4) sc__law_odd.nd rfl (by first | exact .inl rfl | exact .inr rfl) (m_lst (ma_cons m_non (ma_cons m_bl (ma_cons m_int (ma_cons m_str (ma_cons (m_tup ma_nil) (ma_cons m_dict0 (ma_cons (m_disp (mps_cons m_int (m_var (pv 3)) mps_nil)) (ma_cons (m_tup (ma_cons m_str (ma_cons (m_var (pv 3)) (ma_cons (m_var (pv 3)) ma_nil)))) (ma_cons (m_tup (ma_cons m_str (ma_cons (m_var (pv 3)) ma_nil))) (ma_cons (m_tup (ma_cons m_str ma_nil)) ma_nil))))))))))))
  (ms_one (ms_set (i := 4) sc__law_odd.nd rfl (by first | exact .inl rfl | exact .inr rfl) (m_op op_addM snd_add (m_var (pv 4)) (m_lst (ma_cons (m_tup (ma_cons (m_var (pv 3)) ma_nil)) (ma_cons (m_tup (ma_cons (m_lst ma_nil) ma_nil)) (ma_cons (m_tup (ma_cons m_non (ma_cons (m_var (pv 3)) ma_nil))) (ma_cons (m_tup (ma_cons m_str (ma_cons m_bl ma_nil))) (ma_cons (m_tup (ma_cons m_str (ma_cons m_str ma_nil))) (ma_cons (m_tup (ma_cons m_str (ma_cons m_non ma_nil))) (ma_cons (m_tup (ma_cons m_str ma_nil)) ma_nil)))))))))))) (ms_one (ms_if (mt_cmp op_eq snd_eq (m_var (pv 1)) m_int (by rfl)) (ms_cons (ms_set (i := 4) sc__law_odd.nd rfl (by first | exact .inl rfl | exact .inr rfl) (m_lst (ma_cons (m_tup (ma_cons m_str (ma_cons m_int ma_nil))) (ma_cons (m_tup (ma_cons m_str (ma_cons m_non ma_nil))) (ma_cons (m_tup (ma_cons m_str (ma_cons m_str ma_nil))) (ma_cons (m_tup (ma_cons m_str (ma_cons m_str ma_nil))) (ma_cons (m_tup (ma_cons m_str (ma_cons m_str ma_nil))) (ma_cons (m_tup (ma_cons m_str (ma_cons m_int ma_nil))) (ma_cons (m_tup (ma_cons m_str (ma_cons m_str ma_nil))) ma_nil)))))))))
  (ms_cons (ms_set (i := 4) sc__law_odd.nd rfl (by first | exact .inl rfl | exact .inr rfl) (m_op op_addM snd_add (m_var (pv 4)) (m_lst (ma_cons (m_tup (ma_cons m_str (ma_cons m_bl (ma_cons (m_var (pv 3)) ma_nil)))) (ma_cons (m_tup (ma_cons m_str (ma_cons (m_var (pv 3)) ma_nil))) (ma_cons (m_tup (ma_cons m_str (ma_cons m_str (ma_cons (m_var (pv 3)) ma_nil)))) (ma_cons (m_tup (ma_cons m_str (ma_cons (m_var (pv 3)) (ma_cons m_int ma_nil)))) (ma_cons (m_tup (ma_cons m_str ma_nil)) ma_nil))))))))
  (ms_cons (ms_set (i := 4) sc__law_odd.nd rfl (by first | exact .inl rfl | exact .inr rfl) (m_op op_addM snd_add (m_var (pv 4)) (m_lst (ma_cons (m_tup (ma_cons m_str (ma_cons (m_op op_mulM snd_mul (m_lst (ma_cons (m_var (pv 3)) ma_nil)) m_int) ma_nil))) (ma_cons (m_lst (ma_cons m_str (ma_cons (m_op op_mulM snd_mul (m_lst (ma_cons (m_var (pv 3)) ma_nil)) m_int) ma_nil))) (ma_cons (m_tup (ma_cons m_str (ma_cons (m_tup ma_nil) ma_nil))) (ma_cons (m_tup (ma_cons m_str (ma_cons (m_op op_mulM snd_mul (m_lst (ma_cons (m_var (pv 3)) ma_nil)) m_int) ma_nil))) (ma_cons (m_tup (ma_cons m_str (ma_cons (m_op op_mulM snd_mul (m_lst (ma_cons (m_var (pv 3)) ma_nil)) m_int) ma_nil))) ma_nil))))))))
  (ms_one (ms_set (i := 4) sc__law_odd.nd rfl (by first | exact .inl rfl | exact .inr rfl) (m_op op_addM snd_add (m_var (pv 4)) (m_lst (ma_cons (m_tup (ma_cons m_str (ma_cons (m_var (pv 3)) (ma_cons (m_tup ma_nil) ma_nil)))) (ma_cons (m_tup (ma_cons m_str (ma_cons (m_var (pv 3)) (ma_cons (m_op op_mulM snd_mul (m_lst (ma_cons (m_var (pv 3)) ma_nil)) m_int) ma_nil)))) (ma_cons (m_tup (ma_cons m_str (ma_cons (m_var (pv 3)) (ma_cons (m_op op_mulM snd_mul (m_lst (ma_cons (m_var (pv 3)) ma_nil)) m_int) ma_nil)))) (ma_cons (m_lst (ma_cons m_str (ma_cons (m_var (pv 3)) ma_nil))) ma_nil))))))))))) (ms_cons (ms_set (i := 4) sc__law_odd.nd rfl (by first | exact .inl rfl | exact .inr rfl) (m_lst (ma_cons (m_tup (ma_cons m_str (ma_cons m_non ma_nil))) (ma_cons (m_tup (ma_cons m_str (ma_cons (m_var (pv 3)) ma_nil))) (ma_cons (m_tup (ma_cons m_str (ma_cons (m_var (pv 3)) ma_nil))) (ma_cons (m_tup (ma_cons m_str (ma_cons (m_var (pv 3)) ma_nil))) (ma_cons (m_tup (ma_cons m_str (ma_cons (m_lst (ma_cons (m_var (pv 3)) ma_nil)) (ma_cons (m_var (pv 3)) ma_nil)))) (ma_cons (m_tup (ma_cons m_str (ma_cons (m_var (pv 3)) (ma_cons (m_var (pv 3)) ma_nil)))) ma_nil))))))))
  (ms_cons (ms_set (i := 4) sc__law_odd.nd rfl (by first | exact .inl rfl | exact .inr rfl) (m_op op_addM snd_add (m_var (pv 4)) (m_lst (ma_cons (m_tup (ma_cons m_str (ma_cons m_str (ma_cons (m_var (pv 3)) (ma_cons (m_var (pv 3)) ma_nil))))) (ma_cons (m_tup (ma_cons m_str (ma_cons m_str (ma_cons (m_var (pv 3)) (ma_cons (m_var (pv 3)) ma_nil))))) (ma_cons (m_tup (ma_cons m_str (ma_cons m_str (ma_cons (m_var (pv 3)) (ma_cons (m_var (pv 3)) ma_nil))))) (ma_cons (m_tup (ma_cons m_str (ma_cons (m_var (pv 3)) ma_nil))) ma_nil)))))))
  (ms_cons (ms_set (i := 4) sc__law_odd.nd rfl (by first | exact .inl rfl | exact .inr rfl) (m_op op_addM snd_add (m_var (pv 4)) (m_lst (ma_cons (m_tup (ma_cons m_str (ma_cons m_int (ma_cons (m_var (pv 3)) (ma_cons (m_var (pv 3)) ma_nil))))) (ma_cons (m_tup (ma_cons m_str (ma_cons m_str (ma_cons (m_var (pv 3)) ma_nil)))) (ma_cons (m_tup (ma_cons m_str (ma_cons (m_var (pv 3)) (ma_cons (m_var (pv 3)) ma_nil)))) (ma_cons (m_tup (ma_cons m_str (ma_cons m_str (ma_cons (m_var (pv 3)) ma_nil)))) (ma_cons (m_tup (ma_cons m_str ma_nil)) ma_nil))))))))
  (ms_one (ms_set (i := 4) sc__law_odd.nd rfl (by first | exact .inl rfl | exact .inr rfl) (m_op op_addM snd_add (m_var (pv 4)) (m_lst (ma_cons (m_tup (ma_cons m_str (ma_cons (m_var (pv 3)) ma_nil))) (ma_cons (m_tup (ma_cons m_str (ma_cons (m_var (pv 3)) ma_nil))) (ma_cons (m_tup (ma_cons m_str (ma_cons (m_tup (ma_cons m_str ma_nil)) ma_nil))) (ma_cons (m_tup (ma_cons m_str (ma_cons (m_tup (ma_cons m_str (ma_cons (m_var (pv 3)) ma_nil))) ma_nil))) (ma_cons (m_lst (ma_cons m_str (ma_cons (m_lst ma_nil) ma_nil))) ma_nil)))))))))))))))))
  (ms_one (ms_ret (m_ix (ix_M (hu_of hr)) (snd_get T.gd) (m_var (pv 4)) (m_op op_mod snd_mod (m_callTy snd_int call_int1 rfl T.b_int boot_int (ma_cons (m_var (pv 2)) ma_nil)) (m_callB snd_len call_lenM rfl T.b_len boot_len (ma_cons (m_var (pv 4)) ma_nil))) (by intro _ _; rfl))))))))
abbrev N__law_told : List Str := ["tree", "told", "e"]
theorem sc__law_told : FnScope N__law_told ["tree"] (defScope s__law_told) := ⟨rfl, rfl, rfl, by decide +kernel, rfl, by decide +kernel, by decide +kernel⟩
theorem d__law_told {P : Program} {w : World} {K : PySem.W.Frag} {mg : Str → Option Value} {base : Heap} {k : Nat} {C : Fn → Cal} (T : TT P w K mg base k C) : Bod P w K mg base (k + 1) N__law_told ("_law_told" : Str) (defScope s__law_told) (defBody s__law_told) (b__law_told C) := fun f cd A outer s H E hr => by
  have hr0 : Room k (dX P w K mg base N__law_told ("_law_told" : Str) (defScope s__law_told) f cd A outer s H E).A := hr.mono (Nat.le_succ k)
  exact (ms_cons (ms_set (i := 1) sc__law_told.nd rfl (by first | exact .inl rfl | exact .inr rfl) (m_tup (ma_cons m_str ma_nil)))
  (ms_cons (ms_try (cl := [("NoText" : Str), ("NoExpression" : Str)]) rfl rfl (L2.takes_of rfl rfl rfl rfl) T.ex (fun W1 pn1 xe1 tk1 pa1 => have hr : Room (k + 1) (L2.Cx.tr (dX P w K mg base N__law_told ("_law_told" : Str) (defScope s__law_told) f cd A outer s H E) pn1 xe1).A := hr; have hr0 : Room k (L2.Cx.tr (dX P w K mg base N__law_told ("_law_told" : Str) (defScope s__law_told) f cd A outer s H E) pn1 xe1).A := hr0; (ms_one (ms_set (i := 1) sc__law_told.nd rfl (by first | exact .inl rfl | exact .inr rfl) (m_tup (ma_cons m_str (ma_cons (m_callK0 T.k_expression_text_0 hr0 tk1 (by rfl) (mk_cons (m_var (pv 0)) mk_nil)) ma_nil)))))) (mh_plain T.x_NoText rfl (fun _ _ _ => (ms_one (ms_set (i := 1) sc__law_told.nd rfl (by first | exact .inl rfl | exact .inr rfl) (m_tup (ma_cons m_str ma_nil))))) (mh_as (i := 2) (n := ("e" : Str)) T.x_NoExpression rfl sc__law_told.nd rfl rfl (mx_tup (i := 2) (j := 1) sc__law_told.nd rfl (by first | exact .inl rfl | exact .inr rfl) (xs_cons xi_str (xs_cons (xi_and (xi_isO T.i_TriedError (fun _ _ _ => pv 2) T.x_TriedError rfl rfl T.b_isinstance) (xi_one (xi_isB T.i_ValueError (fun _ _ _ => pv 2) T.b_ValueError boot_ValueError rfl rfl T.b_isinstance))) xs_nil))) mh_nil)) rfl (by decide +kernel))
  (ms_one (ms_ret (m_var (pv 1))))))
abbrev N_law : List Str := ["script", "bag", "spot", "tree", "before", "told", "walked", "bad", "due"]
theorem sc_law : FnScope N_law ["script"] (defScope s_law) := ⟨rfl, rfl, rfl, by decide +kernel, rfl, by decide +kernel, by decide +kernel⟩
theorem d_law {P : Program} {w : World} {K : PySem.W.Frag} {mg : Str → Option Value} {base : Heap} {k : Nat} {C : Fn → Cal} (T : TT P w K mg base k C) (hm : SysD base) (hrC : Room (k + 2) callerA) : BodC P w K mg base N_law ("law" : Str) (defScope s_law) (defBody s_law) (b_law C) := fun f cd s H E => by
  have hr : Room (k + 1) (dX P w K mg base N_law ("law" : Str) (defScope s_law) f cd callerA [] s H E).A := hrC.deeper _
  have hr0 : Room k (dX P w K mg base N_law ("law" : Str) (defScope s_law) f cd callerA [] s H E).A := hr.mono (Nat.le_succ k)
  have hg : (dX P w K mg base N_law ("law" : Str) (defScope s_law) f cd callerA [] s H E).A.guards = some [] := rfl
  have hu : (dX P w K mg base N_law ("law" : Str) (defScope s_law) f cd callerA [] s H E).A.units + 70 < cLine := by show 4 + 3 + 70 < cLine; decide
  exact (ms_cons (ms_set (i := 1) sc_law.nd rfl (by first | exact .inl rfl | exact .inr rfl) (m_call T.f__law_bag hr0 (L2.takes_of rfl rfl rfl rfl) rfl (ma_cons (m_var (pv 0)) ma_nil)))
  (ms_cons (ms_set (i := 2) sc_law.nd rfl (by first | exact .inl rfl | exact .inr rfl) (m_call T.f__law_draw hr0 (L2.takes_of rfl rfl rfl rfl) rfl (ma_cons (m_var (pv 1)) (ma_cons m_int ma_nil))))
  (ms_cons (ms_set (i := 3) sc_law.nd rfl (by first | exact .inl rfl | exact .inr rfl) (m_call T.f__law_expression hr0 (L2.takes_of rfl rfl rfl rfl) rfl (ma_cons (m_var (pv 1)) (ma_cons (m_lst (ma_cons (m_op op_addM snd_add m_int (m_call T.f__law_draw hr0 (L2.takes_of rfl rfl rfl rfl) rfl (ma_cons (m_var (pv 1)) (ma_cons m_int ma_nil)))) ma_nil)) (ma_cons (m_op op_addM snd_add m_int (m_call T.f__law_draw hr0 (L2.takes_of rfl rfl rfl rfl) rfl (ma_cons (m_var (pv 1)) (ma_cons m_int ma_nil)))) (ma_cons m_int ma_nil))))))
  (ms_cons (ms_set (i := 4) sc_law.nd rfl (by first | exact .inl rfl | exact .inr rfl) (m_callB snd_repr (call_repr hg hu hm) rfl T.b_repr boot_repr (ma_cons (m_var (pv 3)) ma_nil)))
  (ms_cons (ms_set (i := 5) sc_law.nd rfl (by first | exact .inl rfl | exact .inr rfl) (m_call T.f_expression_text hr0 (L2.takes_of rfl rfl rfl rfl) rfl (ma_cons (m_var (pv 3)) ma_nil)))
  (ms_cons (ms_if (mw_pt (mw_or (mt_not (mt_truth (m_callB snd_isi call_isiM rfl T.b_isinstance boot_isinstance (ma_cons (m_var (pv 5)) (ma_cons (m_ty rfl T.b_str boot_str) ma_nil))))) (mw_or1 (mt_cmp (op_neD hr.units) snd_neD (m_var (pv 5)) (m_call T.f__law_text hr0 (L2.takes_of rfl rfl rfl rfl) rfl (ma_cons (m_var (pv 3)) ma_nil)) (by rfl))))) (ms_one (ms_ret m_bl)) ms_nil)
  (ms_cons (ms_set (i := 6) sc_law.nd rfl (by first | exact .inl rfl | exact .inr rfl) (m_call T.f__law_walk hr0 (L2.takes_of rfl rfl rfl rfl) rfl (ma_cons (m_var (pv 3)) (ma_cons (m_tup ma_nil) ma_nil))))
  (ms_cons (ms_set (i := 7) sc_law.nd rfl (by first | exact .inl rfl | exact .inr rfl) (m_call T.f__law_with hr0 (L2.takes_of rfl rfl rfl rfl) rfl (ma_cons (m_var (pv 3)) (ma_cons (m_ix (ix_M (hu_of hr)) (snd_get T.gd) (m_ix (ix_M (hu_of hr)) (snd_get T.gd) (m_var (pv 6)) (m_op op_mod snd_mod (m_callTy snd_int call_int1 rfl T.b_int boot_int (ma_cons (m_var (pv 2)) ma_nil)) (m_callB snd_len call_lenM rfl T.b_len boot_len (ma_cons (m_var (pv 6)) ma_nil))) (by intro _ _; rfl)) m_int (by intro _ _; rfl)) (ma_cons (m_call T.f__law_odd hr0 (L2.takes_of rfl rfl rfl rfl) rfl (ma_cons (m_var (pv 1)) ma_nil)) ma_nil)))))
  (ms_cons (ms_if (mt_truth (m_call T.f__law_is hr0 (L2.takes_of rfl rfl rfl rfl) rfl (ma_cons (m_var (pv 7)) (ma_cons m_int (ma_cons m_bl ma_nil))))) (ms_one (ms_set (i := 8) sc_law.nd rfl (by first | exact .inl rfl | exact .inr rfl) (m_tup (ma_cons m_str (ma_cons (m_call T.f__law_text hr0 (L2.takes_of rfl rfl rfl rfl) rfl (ma_cons (m_var (pv 7)) ma_nil)) ma_nil))))) (ms_one (ms_set (i := 8) sc_law.nd rfl (by first | exact .inl rfl | exact .inr rfl) (m_tup (ma_cons m_str (ma_cons m_bl ma_nil))))))
  (ms_one (ms_ret (m_and (m_cmp (op_eqD hr.units) snd_eqD (m_call T.f__law_told hr0 (L2.takes_of rfl rfl rfl rfl) rfl (ma_cons (m_var (pv 7)) ma_nil)) (m_var (pv 8)) (by rfl)) (m_and (m_cmp (op_eqD hr.units) snd_eqD (m_call T.f__law_told hr0 (L2.takes_of rfl rfl rfl rfl) rfl (ma_cons (m_var (pv 3)) ma_nil)) (m_tup (ma_cons m_str (ma_cons (m_var (pv 5)) ma_nil))) (by rfl)) (m_one (m_cmp op_eq snd_eq (m_callB snd_repr (call_repr hg hu hm) rfl T.b_repr boot_repr (ma_cons (m_var (pv 3)) ma_nil)) (m_var (pv 4)) (by rfl))))))))))))))))
end Sh

set_option Elab.async false
set_option linter.all false
set_option maxRecDepth 100000
set_option maxHeartbeats 0
/-! the facts of the top, printed by mk.py -/
namespace Sh
open PySem PySem.Spec PyProof.Rows L2
theorem bi_is_row : BI ("is_row" : Str) ("is_row" : Str) s_is_row ["value"] := fun _ _ _ _ _ _ us hl => match us, hl with | [_], _ => rfl
theorem bi_is_integer : BI ("is_integer" : Str) ("is_integer" : Str) s_is_integer ["value", "low", "high"] := fun _ _ _ _ _ _ us hl => match us, hl with | [_, _, _], _ => rfl
theorem bi_is_name : BI ("is_name" : Str) ("is_name" : Str) s_is_name ["value"] := fun _ _ _ _ _ _ us hl => match us, hl with | [_], _ => rfl
theorem bi_is_character : BI ("is_character" : Str) ("is_character" : Str) s_is_character ["value"] := fun _ _ _ _ _ _ us hl => match us, hl with | [_], _ => rfl
theorem bi_is_written : BI ("is_written" : Str) ("is_written" : Str) s_is_written ["value"] := fun _ _ _ _ _ _ us hl => match us, hl with | [_], _ => rfl
theorem bi_is_word : BI ("is_word" : Str) ("is_word" : Str) s_is_word ["value", "words"] := fun _ _ _ _ _ _ us hl => match us, hl with | [_, _], _ => rfl
theorem bi_is_plain : BI ("is_plain" : Str) ("is_plain" : Str) s_is_plain ["letter", "value"] := fun _ _ _ _ _ _ us hl => match us, hl with | [_, _], _ => rfl
theorem bi_is_row_of_parts : BI ("is_row_of_parts" : Str) ("is_row_of_parts" : Str) s_is_row_of_parts ["letter", "value", "room", "kept"] := fun _ _ _ _ _ _ us hl => match us, hl with | [_, _, _, _], _ => rfl
theorem bi_is_within : BI ("is_within" : Str) ("is_within" : Str) s_is_within ["value", "room", "kept"] := fun _ _ _ _ _ _ us hl => match us, hl with | [_, _, _], _ => rfl
theorem bi_is_expression : BI ("is_expression" : Str) ("is_expression" : Str) s_is_expression ["value"] := fun _ _ _ _ _ _ us hl => match us, hl with | [_], _ => rfl
theorem bi_joined : BI ("joined" : Str) ("joined" : Str) s_joined ["parts"] := fun _ _ _ _ _ _ us hl => match us, hl with | [_], _ => rfl
theorem bi_pair : BI ("pair" : Str) ("pair" : Str) s_pair ["one", "sign", "other"] := fun _ _ _ _ _ _ us hl => match us, hl with | [_, _, _], _ => rfl
theorem bi_written : BI ("written" : Str) ("written" : Str) s_written ["expression"] := fun _ _ _ _ _ _ us hl => match us, hl with | [_], _ => rfl
theorem bi_bracketed : BI ("bracketed" : Str) ("bracketed" : Str) s_bracketed ["expression"] := fun _ _ _ _ _ _ us hl => match us, hl with | [_], _ => rfl
theorem bi_expression_text : BI ("expression_text" : Str) ("expression_text" : Str) s_expression_text ["expression"] := fun _ _ _ _ _ _ us hl => match us, hl with | [_], _ => rfl
theorem bi__law_bag : BI ("_law_bag" : Str) ("_law_bag" : Str) s__law_bag ["script"] := fun _ _ _ _ _ _ us hl => match us, hl with | [_], _ => rfl
theorem bi__law_mixed : BI ("_law_mixed" : Str) ("_law_mixed" : Str) s__law_mixed ["cell", "turn"] := fun _ _ _ _ _ _ us hl => match us, hl with | [_, _], _ => rfl
theorem bi__law_draw : BI ("_law_draw" : Str) ("_law_draw" : Str) s__law_draw ["bag", "limit"] := fun _ _ _ _ _ _ us hl => match us, hl with | [_, _], _ => rfl
theorem bi__law_words : BI ("_law_words" : Str) ("_law_words" : Str) s__law_words [] := fun _ _ _ _ _ _ us hl => match us, hl with | [], _ => rfl
theorem bi__law_letters : BI ("_law_letters" : Str) ("_law_letters" : Str) s__law_letters ["bag", "size"] := fun _ _ _ _ _ _ us hl => match us, hl with | [_, _], _ => rfl
theorem bi__law_name : BI ("_law_name" : Str) ("_law_name" : Str) s__law_name ["bag"] := fun _ _ _ _ _ _ us hl => match us, hl with | [_], _ => rfl
theorem bi__law_written : BI ("_law_written" : Str) ("_law_written" : Str) s__law_written ["bag"] := fun _ _ _ _ _ _ us hl => match us, hl with | [_], _ => rfl
theorem bi__law_shapes : BI ("_law_shapes" : Str) ("_law_shapes" : Str) s__law_shapes [] := fun _ _ _ _ _ _ us hl => match us, hl with | [], _ => rfl
theorem bi__law_leaf : BI ("_law_leaf" : Str) ("_law_leaf" : Str) s__law_leaf ["bag", "kept"] := fun _ _ _ _ _ _ us hl => match us, hl with | [_, _], _ => rfl
theorem bi__law_item : BI ("_law_item" : Str) ("_law_item" : Str) s__law_item ["bag", "letter", "room", "depth", "kept"] := fun _ _ _ _ _ _ us hl => match us, hl with | [_, _, _, _, _], _ => rfl
theorem bi__law_expression : BI ("_law_expression" : Str) ("_law_expression" : Str) s__law_expression ["bag", "room", "depth", "kept"] := fun _ _ _ _ _ _ us hl => match us, hl with | [_, _, _, _], _ => rfl
theorem bi__law_is_name : BI ("_law_is_name" : Str) ("_law_is_name" : Str) s__law_is_name ["tree"] := fun _ _ _ _ _ _ us hl => match us, hl with | [_], _ => rfl
theorem bi__law_is_text : BI ("_law_is_text" : Str) ("_law_is_text" : Str) s__law_is_text ["tree"] := fun _ _ _ _ _ _ us hl => match us, hl with | [_], _ => rfl
theorem bi__law_is_item : BI ("_law_is_item" : Str) ("_law_is_item" : Str) s__law_is_item ["letter", "item", "room", "kept"] := fun _ _ _ _ _ _ us hl => match us, hl with | [_, _, _, _], _ => rfl
theorem bi__law_is : BI ("_law_is" : Str) ("_law_is" : Str) s__law_is ["tree", "room", "kept"] := fun _ _ _ _ _ _ us hl => match us, hl with | [_, _, _], _ => rfl
theorem bi__law_parts : BI ("_law_parts" : Str) ("_law_parts" : Str) s__law_parts ["tree"] := fun _ _ _ _ _ _ us hl => match us, hl with | [_], _ => rfl
theorem bi__law_walk : BI ("_law_walk" : Str) ("_law_walk" : Str) s__law_walk ["tree", "way"] := fun _ _ _ _ _ _ us hl => match us, hl with | [_, _], _ => rfl
theorem bi__law_with : BI ("_law_with" : Str) ("_law_with" : Str) s__law_with ["tree", "way", "piece"] := fun _ _ _ _ _ _ us hl => match us, hl with | [_, _, _], _ => rfl
theorem bi__law_texts : BI ("_law_texts" : Str) ("_law_texts" : Str) s__law_texts ["parts"] := fun _ _ _ _ _ _ us hl => match us, hl with | [_], _ => rfl
theorem bi__law_text : BI ("_law_text" : Str) ("_law_text" : Str) s__law_text ["tree"] := fun _ _ _ _ _ _ us hl => match us, hl with | [_], _ => rfl
theorem bi__law_odd : BI ("_law_odd" : Str) ("_law_odd" : Str) s__law_odd ["bag"] := fun _ _ _ _ _ _ us hl => match us, hl with | [_], _ => rfl
theorem bi__law_told : BI ("_law_told" : Str) ("_law_told" : Str) s__law_told ["tree"] := fun _ _ _ _ _ _ us hl => match us, hl with | [_], _ => rfl
theorem bi_law : BI ("law" : Str) ("law" : Str) s_law ["script"] := fun _ _ _ _ _ _ us hl => match us, hl with | [_], _ => rfl
theorem bk_expression_text_0 : BK ("expression_text" : Str) ("expression_text" : Str) s_expression_text ["expression"] ["expression"] := fun _ _ _ _ _ _ us ws h1 h2 => by
  have h3 : us.length = 0 := by simpa using h1
  exact match us, ws, h3, h2 with | [], [_], _, _ => rfl
structure UF (K : PySem.W.Frag) (mg : Str → Option Value) (w : World) : Prop extends SF K mg w where
  u_is_row : UG K mg ("is_row" : Str) s_is_row
  u_is_integer : UG K mg ("is_integer" : Str) s_is_integer
  u_is_name : UG K mg ("is_name" : Str) s_is_name
  u_is_character : UG K mg ("is_character" : Str) s_is_character
  u_is_written : UG K mg ("is_written" : Str) s_is_written
  u_is_word : UG K mg ("is_word" : Str) s_is_word
  u_is_plain : UG K mg ("is_plain" : Str) s_is_plain
  u_is_row_of_parts : UG K mg ("is_row_of_parts" : Str) s_is_row_of_parts
  u_is_within : UG K mg ("is_within" : Str) s_is_within
  u_is_expression : UG K mg ("is_expression" : Str) s_is_expression
  u_joined : UG K mg ("joined" : Str) s_joined
  u_pair : UG K mg ("pair" : Str) s_pair
  u_written : UG K mg ("written" : Str) s_written
  u_bracketed : UG K mg ("bracketed" : Str) s_bracketed
  u_expression_text : UG K mg ("expression_text" : Str) s_expression_text
  u__law_bag : UG K mg ("_law_bag" : Str) s__law_bag
  u__law_mixed : UG K mg ("_law_mixed" : Str) s__law_mixed
  u__law_draw : UG K mg ("_law_draw" : Str) s__law_draw
  u__law_words : UG K mg ("_law_words" : Str) s__law_words
  u__law_letters : UG K mg ("_law_letters" : Str) s__law_letters
  u__law_name : UG K mg ("_law_name" : Str) s__law_name
  u__law_written : UG K mg ("_law_written" : Str) s__law_written
  u__law_shapes : UG K mg ("_law_shapes" : Str) s__law_shapes
  u__law_leaf : UG K mg ("_law_leaf" : Str) s__law_leaf
  u__law_item : UG K mg ("_law_item" : Str) s__law_item
  u__law_expression : UG K mg ("_law_expression" : Str) s__law_expression
  u__law_is_name : UG K mg ("_law_is_name" : Str) s__law_is_name
  u__law_is_text : UG K mg ("_law_is_text" : Str) s__law_is_text
  u__law_is_item : UG K mg ("_law_is_item" : Str) s__law_is_item
  u__law_is : UG K mg ("_law_is" : Str) s__law_is
  u__law_parts : UG K mg ("_law_parts" : Str) s__law_parts
  u__law_walk : UG K mg ("_law_walk" : Str) s__law_walk
  u__law_with : UG K mg ("_law_with" : Str) s__law_with
  u__law_texts : UG K mg ("_law_texts" : Str) s__law_texts
  u__law_text : UG K mg ("_law_text" : Str) s__law_text
  u__law_odd : UG K mg ("_law_odd" : Str) s__law_odd
  u__law_told : UG K mg ("_law_told" : Str) s__law_told
  u_law : UG K mg ("law" : Str) s_law
theorem all_ok {P : Program} {w : World} {K : PySem.W.Frag} {mg : Str → Option Value} {base : Heap} (U : UF K mg w) : ∀ n, TT P w K mg base (2 * n) (F n)
  | 0 => { U.toSF with
    f__law_bag := ug_ok0 U.u__law_bag bi__law_bag
    f__law_draw := ug_ok0 U.u__law_draw bi__law_draw
    f__law_expression := ug_ok0 U.u__law_expression bi__law_expression
    f__law_is := ug_ok0 U.u__law_is bi__law_is
    f__law_is_item := ug_ok0 U.u__law_is_item bi__law_is_item
    f__law_is_name := ug_ok0 U.u__law_is_name bi__law_is_name
    f__law_is_text := ug_ok0 U.u__law_is_text bi__law_is_text
    f__law_item := ug_ok0 U.u__law_item bi__law_item
    f__law_leaf := ug_ok0 U.u__law_leaf bi__law_leaf
    f__law_letters := ug_ok0 U.u__law_letters bi__law_letters
    f__law_mixed := ug_ok0 U.u__law_mixed bi__law_mixed
    f__law_name := ug_ok0 U.u__law_name bi__law_name
    f__law_odd := ug_ok0 U.u__law_odd bi__law_odd
    f__law_parts := ug_ok0 U.u__law_parts bi__law_parts
    f__law_shapes := ug_ok0 U.u__law_shapes bi__law_shapes
    f__law_text := ug_ok0 U.u__law_text bi__law_text
    f__law_texts := ug_ok0 U.u__law_texts bi__law_texts
    f__law_told := ug_ok0 U.u__law_told bi__law_told
    f__law_walk := ug_ok0 U.u__law_walk bi__law_walk
    f__law_with := ug_ok0 U.u__law_with bi__law_with
    f__law_words := ug_ok0 U.u__law_words bi__law_words
    f__law_written := ug_ok0 U.u__law_written bi__law_written
    f_bracketed := ug_ok0 U.u_bracketed bi_bracketed
    f_expression_text := ug_ok0 U.u_expression_text bi_expression_text
    f_is_character := ug_ok0 U.u_is_character bi_is_character
    f_is_expression := ug_ok0 U.u_is_expression bi_is_expression
    f_is_integer := ug_ok0 U.u_is_integer bi_is_integer
    f_is_name := ug_ok0 U.u_is_name bi_is_name
    f_is_plain := ug_ok0 U.u_is_plain bi_is_plain
    f_is_row := ug_ok0 U.u_is_row bi_is_row
    f_is_row_of_parts := ug_ok0 U.u_is_row_of_parts bi_is_row_of_parts
    f_is_within := ug_ok0 U.u_is_within bi_is_within
    f_is_word := ug_ok0 U.u_is_word bi_is_word
    f_is_written := ug_ok0 U.u_is_written bi_is_written
    f_joined := ug_ok0 U.u_joined bi_joined
    f_pair := ug_ok0 U.u_pair bi_pair
    f_written := ug_ok0 U.u_written bi_written
    k_expression_text_0 := uw_ok0 U.u_expression_text bk_expression_text_0 }
  | n + 1 => have T := all_ok (P := P) (base := base) U n
    { U.toSF with
    f__law_bag := ug_okO U.u__law_bag bi__law_bag sc__law_bag (d__law_bag T)
    f__law_draw := ug_ok U.u__law_draw bi__law_draw sc__law_draw (d__law_draw T)
    f__law_expression := ug_ok U.u__law_expression bi__law_expression sc__law_expression (d__law_expression T)
    f__law_is := ug_ok U.u__law_is bi__law_is sc__law_is (d__law_is T)
    f__law_is_item := ug_ok U.u__law_is_item bi__law_is_item sc__law_is_item (d__law_is_item T)
    f__law_is_name := ug_ok U.u__law_is_name bi__law_is_name sc__law_is_name (d__law_is_name T)
    f__law_is_text := ug_ok U.u__law_is_text bi__law_is_text sc__law_is_text (d__law_is_text T)
    f__law_item := ug_ok U.u__law_item bi__law_item sc__law_item (d__law_item T)
    f__law_leaf := ug_ok U.u__law_leaf bi__law_leaf sc__law_leaf (d__law_leaf T)
    f__law_letters := ug_ok U.u__law_letters bi__law_letters sc__law_letters (d__law_letters T)
    f__law_mixed := ug_ok U.u__law_mixed bi__law_mixed sc__law_mixed (d__law_mixed T)
    f__law_name := ug_ok U.u__law_name bi__law_name sc__law_name (d__law_name T)
    f__law_odd := ug_ok U.u__law_odd bi__law_odd sc__law_odd (d__law_odd T)
    f__law_parts := ug_ok U.u__law_parts bi__law_parts sc__law_parts (d__law_parts T)
    f__law_shapes := ug_ok U.u__law_shapes bi__law_shapes sc__law_shapes (d__law_shapes T)
    f__law_text := ug_ok U.u__law_text bi__law_text sc__law_text (d__law_text T)
    f__law_texts := ug_ok U.u__law_texts bi__law_texts sc__law_texts (d__law_texts T)
    f__law_told := ug_ok U.u__law_told bi__law_told sc__law_told (d__law_told T)
    f__law_walk := ug_ok U.u__law_walk bi__law_walk sc__law_walk (d__law_walk T)
    f__law_with := ug_ok U.u__law_with bi__law_with sc__law_with (d__law_with T)
    f__law_words := ug_ok U.u__law_words bi__law_words sc__law_words (d__law_words T)
    f__law_written := ug_ok U.u__law_written bi__law_written sc__law_written (d__law_written T)
    f_bracketed := ug_ok U.u_bracketed bi_bracketed sc_bracketed (d_bracketed T)
    f_expression_text := ug_ok U.u_expression_text bi_expression_text sc_expression_text (d_expression_text T)
    f_is_character := ug_ok U.u_is_character bi_is_character sc_is_character (d_is_character T)
    f_is_expression := ug_ok U.u_is_expression bi_is_expression sc_is_expression (d_is_expression T)
    f_is_integer := ug_ok U.u_is_integer bi_is_integer sc_is_integer (d_is_integer T)
    f_is_name := ug_ok U.u_is_name bi_is_name sc_is_name (d_is_name T)
    f_is_plain := ug_ok U.u_is_plain bi_is_plain sc_is_plain (d_is_plain T)
    f_is_row := ug_ok U.u_is_row bi_is_row sc_is_row (d_is_row T)
    f_is_row_of_parts := ug_ok U.u_is_row_of_parts bi_is_row_of_parts sc_is_row_of_parts (d_is_row_of_parts T)
    f_is_within := ug_ok U.u_is_within bi_is_within sc_is_within (d_is_within T)
    f_is_word := ug_ok U.u_is_word bi_is_word sc_is_word (d_is_word T)
    f_is_written := ug_ok U.u_is_written bi_is_written sc_is_written (d_is_written T)
    f_joined := ug_ok U.u_joined bi_joined sc_joined (d_joined T)
    f_pair := ug_ok U.u_pair bi_pair sc_pair (d_pair T)
    f_written := ug_ok U.u_written bi_written sc_written (d_written T)
    k_expression_text_0 := uw_ok U.u_expression_text bk_expression_text_0 sc_expression_text (d_expression_text T) }
theorem facts {w : World} {K : PySem.W.Frag} {h : Heap} {mg : Str → Option Value} (X : K.In h) (G : h.Ns mainGlobals mg) (c : He.SaysX faD fnD tsD [] exD w h K) : UF K mg w := by
  have cd := c.t.d
  have glo : ∀ x, (He.Fa.glo x) ∈ faD → mg x = some (.ref (He.ga K x)) := fun x hx => He.glo_ok X G (cd.facts hx)
  have exx := c.more
  unfold exD at exx
  simp only [Bool.and_eq_true, Bool.true_and] at exx
  obtain ⟨⟨⟨⟨⟨⟨⟨⟨ex_ALONE, ex_BETWEEN⟩, ex_LEAVING⟩, ex_OPERATORS⟩, ex_SHAPES⟩, ex_TESTS⟩, ex_WORDS⟩, ex_itl_TriedError⟩, ex_itl_ValueError⟩ := exx
  have tab_BETWEEN : He.dicW K (He.ga K ("BETWEEN" : Str)) = some (He.keysIn w.params ks_BETWEEN) := by
    have e : tsD.map (fun t => He.dicW K (t.1 K)) = tsD.map fun t => some (He.keysIn w.params t.2) := congrArg (fun z : He.AlT => z.2) c.t
    have e2 : (tsD.map fun t => He.dicW K (t.1 K))[0]? = (tsD.map fun t => some (He.keysIn w.params t.2))[0]? := by rw [e]
    exact Option.some.inj e2
  have gd_BETWEEN := gd_ok (mg := mg) (w := w) (kvs := kv_BETWEEN) (glo "BETWEEN" (List.mem_of_getElem? (i := 54) rfl)) tab_BETWEEN rfl (fun z wv hz => vals_look ex_BETWEEN (by decide +kernel) hz)
  have tab_SHAPES : He.dicW K (He.ga K ("SHAPES" : Str)) = some (He.keysIn w.params ks_SHAPES) := by
    have e : tsD.map (fun t => He.dicW K (t.1 K)) = tsD.map fun t => some (He.keysIn w.params t.2) := congrArg (fun z : He.AlT => z.2) c.t
    have e2 : (tsD.map fun t => He.dicW K (t.1 K))[1]? = (tsD.map fun t => some (He.keysIn w.params t.2))[1]? := by rw [e]
    exact Option.some.inj e2
  have gd_SHAPES := gd_ok (mg := mg) (w := w) (kvs := kv_SHAPES) (glo "SHAPES" (List.mem_of_getElem? (i := 59) rfl)) tab_SHAPES rfl (fun z wv hz => vals_look ex_SHAPES (by decide +kernel) hz)
  have mg_NoExpression := glo "NoExpression" (List.mem_of_getElem? (i := 62) rfl)
  have exx0 : ExOk K mg xsT csT subT := ex_of (L := exL) ((ex_cons (exm_cl (glo "NoExpression" (List.mem_of_getElem? (i := 62) rfl)) (glo "NoExpression" (List.mem_of_getElem? (i := 62) rfl)) (cd.facts (List.mem_of_getElem? (i := 66) rfl))) (ex_cons (exm_cl (glo "NoExpression" (List.mem_of_getElem? (i := 62) rfl)) (glo "NoText" (List.mem_of_getElem? (i := 63) rfl)) (cd.facts (List.mem_of_getElem? (i := 67) rfl))) (ex_cons (exm_cl (glo "NoExpression" (List.mem_of_getElem? (i := 62) rfl)) (glo "TriedError" (List.mem_of_getElem? (i := 64) rfl)) (cd.facts (List.mem_of_getElem? (i := 68) rfl))) ex_nil)))) (by decide +kernel)
  refine { gd := ?gd, cf := ?cf, b_ValueError := He.free_ok X G (cd.facts (List.mem_of_getElem? (i := 38) rfl)), b_abs := He.free_ok X G (cd.facts (List.mem_of_getElem? (i := 39) rfl)), b_all := He.free_ok X G (cd.facts (List.mem_of_getElem? (i := 40) rfl)), b_bool := He.free_ok X G (cd.facts (List.mem_of_getElem? (i := 41) rfl)), b_int := He.free_ok X G (cd.facts (List.mem_of_getElem? (i := 42) rfl)), b_isinstance := He.free_ok X G (cd.facts (List.mem_of_getElem? (i := 43) rfl)), b_len := He.free_ok X G (cd.facts (List.mem_of_getElem? (i := 44) rfl)), b_list := He.free_ok X G (cd.facts (List.mem_of_getElem? (i := 45) rfl)), b_max := He.free_ok X G (cd.facts (List.mem_of_getElem? (i := 46) rfl)), b_min := He.free_ok X G (cd.facts (List.mem_of_getElem? (i := 47) rfl)), b_ord := He.free_ok X G (cd.facts (List.mem_of_getElem? (i := 48) rfl)), b_range := He.free_ok X G (cd.facts (List.mem_of_getElem? (i := 49) rfl)), b_repr := He.free_ok X G (cd.facts (List.mem_of_getElem? (i := 50) rfl)), b_str := He.free_ok X G (cd.facts (List.mem_of_getElem? (i := 51) rfl)), b_tuple := He.free_ok X G (cd.facts (List.mem_of_getElem? (i := 52) rfl)), g_ALONE := gv_tup (glo "ALONE" (List.mem_of_getElem? (i := 53) rfl)) rfl ex_ALONE (fun _ _ => flsW_ok (by decide +kernel)), g_BETWEEN := gv_glo (glo "BETWEEN" (List.mem_of_getElem? (i := 54) rfl)), g_DEEPEST := gv_int (He.int_ok X G (cd.facts (List.mem_of_getElem? (i := 55) rfl))), g_LEAVING := gv_tup (glo "LEAVING" (List.mem_of_getElem? (i := 56) rfl)) rfl ex_LEAVING (fun _ _ => flsW_ok (by decide +kernel)), g_OPERATORS := gv_tup (glo "OPERATORS" (List.mem_of_getElem? (i := 57) rfl)) rfl ex_OPERATORS (fun _ _ => flsW_ok (by decide +kernel)), g_ROWS := gv_str (He.str_ok X G (cd.facts (List.mem_of_getElem? (i := 58) rfl))), g_SHAPES := gv_glo (glo "SHAPES" (List.mem_of_getElem? (i := 59) rfl)), g_TESTS := gv_tup (glo "TESTS" (List.mem_of_getElem? (i := 60) rfl)) rfl ex_TESTS (fun _ _ => flsW_ok (by decide +kernel)), g_WORDS := gv_tup (glo "WORDS" (List.mem_of_getElem? (i := 61) rfl)) rfl ex_WORDS (fun _ _ => flsW_ok (by decide +kernel)), r_NoExpression := ra_ok (glo "NoExpression" (List.mem_of_getElem? (i := 62) rfl)) (cd.facts (List.mem_of_getElem? (i := 65) rfl)), x_NoExpression := ⟨_, glo "NoExpression" (List.mem_of_getElem? (i := 62) rfl)⟩, x_NoText := ⟨_, glo "NoText" (List.mem_of_getElem? (i := 63) rfl)⟩, x_TriedError := ⟨_, glo "TriedError" (List.mem_of_getElem? (i := 64) rfl)⟩, ex := exx0, i_TriedError := is_of (mg := mg) (L := itl_TriedError) (by intro p hp; simp only [itl_TriedError, List.mem_cons, List.not_mem_nil, or_false] at hp; rcases hp with rfl <;> assumption) (by unfold clV; rw [glo "TriedError" (List.mem_of_getElem? (i := 64) rfl)]; exact ex_itl_TriedError), i_ValueError := is_of (mg := mg) (L := itl_ValueError) (by intro p hp; simp only [itl_ValueError, List.mem_cons, List.not_mem_nil, or_false] at hp; rcases hp with rfl <;> assumption) (by exact ex_itl_ValueError), u_is_row := ⟨_, glo "is_row" (List.mem_of_getElem? (i := 0) rfl), cd.def_ 0 rfl⟩, u_is_integer := ⟨_, glo "is_integer" (List.mem_of_getElem? (i := 1) rfl), cd.def_ 1 rfl⟩, u_is_name := ⟨_, glo "is_name" (List.mem_of_getElem? (i := 2) rfl), cd.def_ 2 rfl⟩, u_is_character := ⟨_, glo "is_character" (List.mem_of_getElem? (i := 3) rfl), cd.def_ 3 rfl⟩, u_is_written := ⟨_, glo "is_written" (List.mem_of_getElem? (i := 4) rfl), cd.def_ 4 rfl⟩, u_is_word := ⟨_, glo "is_word" (List.mem_of_getElem? (i := 5) rfl), cd.def_ 5 rfl⟩, u_is_plain := ⟨_, glo "is_plain" (List.mem_of_getElem? (i := 6) rfl), cd.def_ 6 rfl⟩, u_is_row_of_parts := ⟨_, glo "is_row_of_parts" (List.mem_of_getElem? (i := 7) rfl), cd.def_ 7 rfl⟩, u_is_within := ⟨_, glo "is_within" (List.mem_of_getElem? (i := 8) rfl), cd.def_ 8 rfl⟩, u_is_expression := ⟨_, glo "is_expression" (List.mem_of_getElem? (i := 9) rfl), cd.def_ 9 rfl⟩, u_joined := ⟨_, glo "joined" (List.mem_of_getElem? (i := 10) rfl), cd.def_ 10 rfl⟩, u_pair := ⟨_, glo "pair" (List.mem_of_getElem? (i := 11) rfl), cd.def_ 11 rfl⟩, u_written := ⟨_, glo "written" (List.mem_of_getElem? (i := 12) rfl), cd.def_ 12 rfl⟩, u_bracketed := ⟨_, glo "bracketed" (List.mem_of_getElem? (i := 13) rfl), cd.def_ 13 rfl⟩, u_expression_text := ⟨_, glo "expression_text" (List.mem_of_getElem? (i := 14) rfl), cd.def_ 14 rfl⟩, u__law_bag := ⟨_, glo "_law_bag" (List.mem_of_getElem? (i := 15) rfl), cd.def_ 15 rfl⟩, u__law_mixed := ⟨_, glo "_law_mixed" (List.mem_of_getElem? (i := 16) rfl), cd.def_ 16 rfl⟩, u__law_draw := ⟨_, glo "_law_draw" (List.mem_of_getElem? (i := 17) rfl), cd.def_ 17 rfl⟩, u__law_words := ⟨_, glo "_law_words" (List.mem_of_getElem? (i := 18) rfl), cd.def_ 18 rfl⟩, u__law_letters := ⟨_, glo "_law_letters" (List.mem_of_getElem? (i := 19) rfl), cd.def_ 19 rfl⟩, u__law_name := ⟨_, glo "_law_name" (List.mem_of_getElem? (i := 20) rfl), cd.def_ 20 rfl⟩, u__law_written := ⟨_, glo "_law_written" (List.mem_of_getElem? (i := 21) rfl), cd.def_ 21 rfl⟩, u__law_shapes := ⟨_, glo "_law_shapes" (List.mem_of_getElem? (i := 22) rfl), cd.def_ 22 rfl⟩, u__law_leaf := ⟨_, glo "_law_leaf" (List.mem_of_getElem? (i := 23) rfl), cd.def_ 23 rfl⟩, u__law_item := ⟨_, glo "_law_item" (List.mem_of_getElem? (i := 24) rfl), cd.def_ 24 rfl⟩, u__law_expression := ⟨_, glo "_law_expression" (List.mem_of_getElem? (i := 25) rfl), cd.def_ 25 rfl⟩, u__law_is_name := ⟨_, glo "_law_is_name" (List.mem_of_getElem? (i := 26) rfl), cd.def_ 26 rfl⟩, u__law_is_text := ⟨_, glo "_law_is_text" (List.mem_of_getElem? (i := 27) rfl), cd.def_ 27 rfl⟩, u__law_is_item := ⟨_, glo "_law_is_item" (List.mem_of_getElem? (i := 28) rfl), cd.def_ 28 rfl⟩, u__law_is := ⟨_, glo "_law_is" (List.mem_of_getElem? (i := 29) rfl), cd.def_ 29 rfl⟩, u__law_parts := ⟨_, glo "_law_parts" (List.mem_of_getElem? (i := 30) rfl), cd.def_ 30 rfl⟩, u__law_walk := ⟨_, glo "_law_walk" (List.mem_of_getElem? (i := 31) rfl), cd.def_ 31 rfl⟩, u__law_with := ⟨_, glo "_law_with" (List.mem_of_getElem? (i := 32) rfl), cd.def_ 32 rfl⟩, u__law_texts := ⟨_, glo "_law_texts" (List.mem_of_getElem? (i := 33) rfl), cd.def_ 33 rfl⟩, u__law_text := ⟨_, glo "_law_text" (List.mem_of_getElem? (i := 34) rfl), cd.def_ 34 rfl⟩, u__law_odd := ⟨_, glo "_law_odd" (List.mem_of_getElem? (i := 35) rfl), cd.def_ 35 rfl⟩, u__law_told := ⟨_, glo "_law_told" (List.mem_of_getElem? (i := 36) rfl), cd.def_ 36 rfl⟩, u_law := ⟨_, glo "law" (List.mem_of_getElem? (i := 37) rfl), cd.def_ 37 rfl⟩ }
  case gd =>
    intro x kvs hx
    unfold gdT at hx
    by_cases e_BETWEEN : x = ("BETWEEN" : Str)
    · subst e_BETWEEN
      rw [if_pos rfl] at hx
      cases hx
      exact gd_BETWEEN
    rw [if_neg e_BETWEEN] at hx
    by_cases e_SHAPES : x = ("SHAPES" : Str)
    · subst e_SHAPES
      rw [if_pos rfl] at hx
      cases hx
      exact gd_SHAPES
    rw [if_neg e_SHAPES] at hx
    cases hx
  case cf =>
    intro c f hf
    unfold cfT at hf
    cases hf
end Sh

set_option Elab.async false
set_option linter.all false
set_option maxRecDepth 100000
set_option maxHeartbeats 2000000
/-! ShL: running the model: rules for simp; a def's end; loops. -/
namespace Sh
open PySem L2

theorem fuel_line : (sizeLine : Nat) < fuel := Nat.lt_of_lt_of_le (by decide) fuel_ge
/-! ### one step -/
section
variable {e : En} {S S1 : Store} {w x y : W} {m : Bool}
@[simp] theorem eVar_ap (i : Nat) : eVar i e S = match e[i]? with | some (some w) => .ok w S | _ => .bad := rfl
@[simp] theorem eC_ap : eC w e S = .ok w S := rfl
@[simp] theorem e1_ap {f : P1} {a : EM} : e1 f a e S = (a e S).bind fun x S1 => lift (f x S1) := rfl
@[simp] theorem e2_ap {f : P2} {a b : EM} : e2 f a b e S = (a e S).bind fun x S1 => (b e S1).bind fun y S2 => lift (f x y S2) := rfl
@[simp] theorem evs_nil : evs [] e S = .ok [] S := rfl
@[simp] theorem evs_cons {a : EM} {as : List EM} : evs (a :: as) e S = (a e S).bind fun x S1 => (evs as e S1).bind fun xs S2 => .ok (x :: xs) S2 := rfl
@[simp] theorem eN_ap {f : PN} {as : List EM} : eN f as e S = (evs as e S).bind fun xs S1 => lift (f xs S1) := rfl
@[simp] theorem eCall_ap {C : List W → Store → R W} {as : List EM} : eCall C as e S = (evs as e S).bind fun xs S1 => C xs S1 := rfl
@[simp] theorem eIf_ap {c : TM} {a b : EM} : eIf c a b e S = (c e S).bind fun k S1 => if k = true then a e S1 else b e S1 := rfl
@[simp] theorem tE_ap {a : EM} : tE a e S = (a e S).bind fun w S1 => liftB (truW w S1) S1 := rfl
@[simp] theorem tB_ap {a : EM} : tB a e S = (a e S).bind fun w S1 => liftB (bolW w) S1 := rfl
@[simp] theorem tNot_ap {t : TM} : tNot t e S = (t e S).bind fun b S1 => .ok (!b) S1 := rfl
@[simp] theorem tAnd_ap {t u : TM} : tAnd t u e S = (t e S).bind fun b S1 => if b = true then u e S1 else .ok false S1 := rfl
@[simp] theorem tOr_ap {t u : TM} : tOr t u e S = (t e S).bind fun b S1 => if b = true then .ok true S1 else u e S1 := rfl
def andK (x : W) (S : Store) (r : Store → R W) : R W := (liftB (truW x S) S).bind fun k S1 => if k = true then r S1 else .ok x S1
def orK (x : W) (S : Store) (r : Store → R W) : R W := (liftB (truW x S) S).bind fun k S1 => if k = true then .ok x S1 else r S1
@[simp] theorem andK_bl {k : Bool} {r : Store → R W} : andK (.bl k) S r = if k = true then r S else .ok (.bl false) S := by cases k <;> rfl
@[simp] theorem orK_bl {k : Bool} {r : Store → R W} : orK (.bl k) S r = if k = true then .ok (.bl true) S else r S := by cases k <;> rfl
@[simp] theorem eAnd_ap {a b : EM} : eAnd a b e S = (a e S).bind fun x S1 => andK x S1 (b e) := rfl
@[simp] theorem eOr_ap {a b : EM} : eOr a b e S = (a e S).bind fun x S1 => orK x S1 (b e) := rfl
@[simp] theorem eNot_ap {a : EM} : eNot a e S = (a e S).bind fun x S1 => (liftB (truW x S1) S1).bind fun k S1 => .ok (.bl (!k)) S1 := rfl
@[simp] theorem eChain_ap {f g : P2} {a b c : EM} : eChain f g a b c e S = (a e S).bind fun x S1 => (b e S1).bind fun y S2 => (lift (f x y S2)).bind fun k S3 => (liftB (bolW k) S3).bind fun k S4 => if k = true then (c e S4).bind fun z S5 => lift (g y z S5) else .ok (.bl false) S4 := rfl
@[simp] theorem eMeth_ap {T : String} {f : W → PN} {o : EM} {as : List EM} : eMeth T f o as e S = (o e S).bind fun x S1 => if tyM T x S1 then (evs as e S1).bind fun xs S2 => lift (f x xs S2) else .bad := rfl
@[simp] theorem eMet_ap {c n : Str} {C : Cal} {o : EM} {as : List EM} : eMet c n C o as e S = (o e S).bind fun x S1 => match x with
  | .ref a => match S1[a]? with
    | some (.ins c' fs) => if c' = c ∧ fs.lookup n = none then (evs as e S1).bind fun xs S2 => C (x :: xs) S2 else .bad
    | _ => .bad
  | _ => .bad := rfl
@[simp] theorem eMake_ap {c : Str} {C : Cal} {as : List EM} : eMake c C as e S = (evs as e S).bind fun xs S1 => (C (.ref S1.length :: xs) (S1 ++ [.ins c []])).bind fun w S2 => match w with
  | .non => .ok (.ref S1.length) S2
  | _ => .bad := rfl
@[simp] theorem eCallK_ap {C : Cal} {as ks : List EM} {n : Nat} : eCallK C as ks n e S = (evs as e S).bind fun xs S1 => (evs ks e S1).bind fun ys S2 => if ys.length = n then C (xs ++ ys) S2 else .bad := rfl
@[simp] theorem evO_none : evO none e S = .ok none S := rfl
@[simp] theorem evO_some {a : EM} : evO (some a) e S = (a e S).bind fun w S1 => match w with
    | .int i => .ok (some i) S1
    | _ => .bad := rfl
@[simp] theorem eCut_ap {a : EM} {lo hi : OM} : eCut m a lo hi e S = (a e S).bind fun x S1 => (evO lo e S1).bind fun l S2 => (evO hi e S2).bind fun h S3 => lift (cutW m x l h S3) := rfl
@[simp] theorem eDict0_ap : eDict0 m e S = .ok (mkD m [] S).1 (mkD m [] S).2 := rfl
@[simp] theorem sNil_ap : sNil e S = .nx e S := rfl
@[simp] theorem sSeq_ap {a b : SM} : sSeq a b e S = (a e S).seq b := rfl
@[simp] theorem sIf_ap {c : TM} {a b : SM} : sIf c a b e S = (c e S).thn e fun k S1 => if k = true then a e S1 else b e S1 := rfl
@[simp] theorem sRet_ap {a : EM} : sRet a e S = (a e S).thn e fun w S1 => .ret w S1 := rfl
@[simp] theorem sRetN_ap : sRetN e S = .ret .non S := rfl
@[simp] theorem sExpr_ap {a : EM} : sExpr a e S = (a e S).thn e fun _ S1 => .nx e S1 := rfl
@[simp] theorem sBrk_ap : sBrk e S = .brk e S := rfl
@[simp] theorem sCnt_ap : sCnt e S = .cnt e S := rfl
@[simp] theorem sBad_ap : sBad e S = .bad := rfl
@[simp] theorem sSet_ap {i : Nat} {a : EM} : sSet i a e S = (a e S).thn e fun w S1 => .nx (e.set i (some w)) S1 := rfl
@[simp] theorem sAsg_ap {g : GM} {a : EM} : sAsg g a e S = (a e S).thn e fun w S1 => RSof (g w e S1) := rfl
@[simp] theorem sPar_ap {i j : Nat} {a b : EM} : sPar i j a b e S = (a e S).thn e fun x S1 => (b e S1).thn e fun y S2 => .nx ((e.set i (some x)).set j (some y)) S2 := rfl
@[simp] theorem sAug_ap {i : Nat} {f : P2} {a : EM} : sAug i f a e S = match e[i]? with
  | some (some x) => (a e S).thn e fun y S1 => (lift (f x y S1)).thn e fun z S2 => .nx (e.set i (some z)) S2
  | _ => .bad := rfl
@[simp] theorem sSetIx_ap {f : P3} {o i a : EM} : sSetIx f o i a e S = (a e S).thn e fun v S1 => (o e S1).thn e fun x S2 => (i e S2).thn e fun y S3 => match f x y v S3 with
  | some S4 => .nx e S4
  | none => .bad := rfl
@[simp] theorem sFldW_ap {cf : CF} {o : EM} {f : Str} {a : EM} : sFldW cf o f a e S = (a e S).thn e fun v S1 => (o e S1).thn e fun x S2 => match x with
  | .ref p => match S2[p]? with
    | some (.ins c fs) => if f ∈ cf c ∧ fs.length < 1000 then .nx e (S2.set p (.ins c (putW' f v fs))) else .bad
    | _ => .bad
  | _ => .bad := rfl
@[simp] theorem gVar_ap (i : Nat) : gVar i w e S = some (e.set i (some w), S) := rfl
@[simp] theorem gRow_tup {is : List Nat} {ws : List W} : gRow is (.tup ws) e S = if ws.length = is.length then some (setVars is ws e, S) else none := rfl
@[simp] theorem gRow_lst {is : List Nat} {ws : List W} : gRow is (.lst ws) e S = if ws.length = is.length then some (setVars is ws e, S) else none := rfl
@[simp] theorem setVars_cons {i : Nat} {is : List Nat} {ws : List W} : setVars (i :: is) (w :: ws) e = setVars is ws (e.set i (some w)) := rfl
@[simp] theorem setVars_nil : setVars [] [] e = e := rfl
end

/-! ### primitives -/
section
variable {S : Store} {i j : Int} {a b : Str} {xs ys : List W} {m : Bool} {x y : W}
@[simp] theorem tru_bl {b : Bool} : truW (.bl b) S = some b := rfl
@[simp] theorem tru_non : truW .non S = some false := rfl
@[simp] theorem tru_int : truW (.int i) S = some (i != 0) := rfl
@[simp] theorem tru_tup : truW (.tup xs) S = some (!xs.isEmpty) := rfl
@[simp] theorem tru_lst : truW (.lst xs) S = some (!xs.isEmpty) := rfl
@[simp] theorem bol_bl {b : Bool} : bolW (.bl b) = some b := rfl
@[simp] theorem add_int : addW m (.int i) (.int j) S = some (.int (i + j), S) := rfl
@[simp] theorem add_str : addW m (.str a) (.str b) S = if a.length + b.length ≤ sizeLine then some (.str (a ++ b), S) else none := rfl
@[simp] theorem add_tup : addW m (.tup xs) (.tup ys) S = if xs.length + ys.length ≤ sizeLine then some (.tup (xs ++ ys), S) else none := rfl
@[simp] theorem add_lst : addW m (.lst xs) (.lst ys) S = if xs.length + ys.length ≤ sizeLine then some (mkL m (xs ++ ys) S) else none := rfl
@[simp] theorem sub_int : subW (.int i) (.int j) S = some (.int (i - j), S) := rfl
@[simp] theorem mul_int : mulW m (.int i) (.int j) S = if (-(2 ^ 64) < i ∧ i < 2 ^ 64) ∨ (-(2 ^ 64) < j ∧ j < 2 ^ 64) then some (.int (i * j), S) else none := rfl
@[simp] theorem mul_str {k : Int} : mulW m (.str a) (.int k) S = if a.length ≤ 1000 ∧ -(2 ^ 63) ≤ k ∧ k ≤ 1000 then some (.str (Txt.mul a k), S) else none := rfl
@[simp] theorem mul_lst {k : Int} : mulW m (.lst xs) (.int k) S = if -(2 ^ 63) ≤ k ∧ k < 2 ^ 63 ∧ xs.length * k.toNat ≤ sizeLine then some (mkL m (List.replicate k.toNat xs).flatten S) else none := rfl
@[simp] theorem fdiv_int : fdivW (.int i) (.int j) S = if 0 < j ∧ j < 1073741824 then some (.int (i / j), S) else none := rfl
@[simp] theorem mod_int : modW (.int i) (.int j) S = if 0 < j then some (.int (i % j), S) else none := rfl
@[simp] theorem neg_int : negW (.int i) S = some (.int (-i), S) := rfl
@[simp] theorem iadd_int : iaddW (.int i) (.int j) S = some (.int (i + j), S) := rfl
@[simp] theorem iadd_str : iaddW (.str a) (.str b) S = if a.length + b.length ≤ sizeLine then some (.str (a ++ b), S) else none := rfl
@[simp] theorem eq_int : eqW (.int i) (.int j) S = some (.bl (decide (i = j)), S) := by simp [eqW, scV, L2.scal]
@[simp] theorem eq_str : eqW (.str a) (.str b) S = some (.bl (decide (a = b)), S) := by simp [eqW, scV, L2.scal]
@[simp] theorem ne_int : neW (.int i) (.int j) S = some (.bl (!decide (i = j)), S) := by simp [neW, scV, L2.scal]
@[simp] theorem ne_str : neW (.str a) (.str b) S = some (.bl (!decide (a = b)), S) := by simp [neW, scV, L2.scal]
@[simp] theorem lt_int : ltW (.int i) (.int j) S = some (.bl (decide (i < j)), S) := rfl
@[simp] theorem le_int : leW (.int i) (.int j) S = some (.bl (decide (i ≤ j)), S) := rfl
@[simp] theorem gt_int : gtW (.int i) (.int j) S = some (.bl (decide (j < i)), S) := rfl
@[simp] theorem ge_int : geW (.int i) (.int j) S = some (.bl (decide (j ≤ i)), S) := rfl
@[simp] theorem isN_ap : isNW x .non S = some (.bl (isNon x), S) := rfl
@[simp] theorem notN_ap : notNW x .non S = some (.bl (!isNon x), S) := rfl
@[simp] theorem tupN_ap : tupN xs S = if xs.length ≤ sizeLine then some (.tup xs, S) else none := rfl
@[simp] theorem lstN_ap : lstN m xs S = if xs.length ≤ sizeLine then some (mkL m xs S) else none := rfl
@[simp] theorem len_str : lenN [.str a] S = if a.length ≤ sizeLine then some (.int a.length, S) else none := rfl
@[simp] theorem len_tup : lenN [.tup xs] S = some (.int xs.length, S) := rfl
@[simp] theorem len_lst : lenN [.lst xs] S = some (.int xs.length, S) := rfl
@[simp] theorem abs_int : absN [.int i] S = some (.int (if i < 0 then -i else i), S) := rfl
@[simp] theorem int_int : intN [.int i] S = some (.int i, S) := rfl
@[simp] theorem int_bl {b : Bool} : intN [.bl b] S = some (.int (if b then 1 else 0), S) := rfl
@[simp] theorem min_int : minN [.int i, .int j] S = some (.int (if j < i then j else i), S) := rfl
@[simp] theorem max_int : maxN [.int i, .int j] S = some (.int (if j > i then j else i), S) := rfl
theorem str_int : strN [.int i] S = if -big ≤ i ∧ i < big then some (.str (toString i), S) else none := rfl
@[simp] theorem str_bl {b : Bool} : strN [.bl b] S = some (.str (if b then "True" else "False"), S) := rfl
@[simp] theorem str_str : strN [.str a] S = some (.str a, S) := rfl
@[simp] theorem ord_str : ordN [.str a] S = if a.length = 1 then some (.int (a.cps.getD 0 0 : Nat), S) else none := rfl
@[simp] theorem ord_chr {c : Nat} : ordN [chrW c] S = some (.int c, S) := by simp [chrW, ordN, Str.length]
@[simp] theorem list_tup : listN m [.tup xs] S = some (mkL m xs S) := rfl
@[simp] theorem list_lst : listN m [.lst xs] S = some (mkL m xs S) := rfl
@[simp] theorem tuple_tup : tupleN [.tup xs] S = some (.tup xs, S) := rfl
@[simp] theorem tuple_lst : tupleN [.lst xs] S = some (.tup xs, S) := rfl
@[simp] theorem get_tup {G : GD} : getW G (.tup xs) (.int i) S = (atI xs i).map fun w => (w, S) := rfl
@[simp] theorem get_lst {G : GD} : getW G (.lst xs) (.int i) S = (atI xs i).map fun w => (w, S) := rfl
@[simp] theorem get_scr {G : GD} {ns : List Int} : getW G (.scr ns) (.int i) S = (atI ns i).map fun n => (.int n, S) := rfl
@[simp] theorem get_str {G : GD} : getW G (.str a) (.int i) S = if a.length ≤ sizeLine then (atI a.cps.toList i).map fun c => (chrW c, S) else none := rfl
@[simp] theorem cut_tup {lo hi : Option Int} : cutW m (.tup xs) lo hi S = some (.tup (cutL xs lo hi), S) := rfl
@[simp] theorem cut_lstv {lo hi : Option Int} : cutW m (.lst xs) lo hi S = some (mkL m (cutL xs lo hi) S) := rfl
@[simp] theorem cut_str {lo hi : Option Int} : cutW m (.str a) lo hi S = if a.length ≤ sizeLine then some (.str (cutS a lo hi), S) else none := rfl
@[simp] theorem in_tup {G : GD} {vs : List V} {v : V} (h1 : scV x = some v) (h2 : scVs xs = some vs) : inW G x (.tup xs) S = some (.bl (inV v vs), S) := by simp [inW, inB, h1, h2]
@[simp] theorem iter_tup : iterW (.tup xs) S = some (itT xs) := rfl
@[simp] theorem iter_lst : iterW (.lst xs) S = some (itT xs) := rfl
@[simp] theorem iter_str : iterW (.str a) S = some (itT (a.cps.toList.map chrW)) := rfl
@[simp] theorem join_lst {zs : List Str} (h : strsW ys = some zs) : joinM (.str a) [.lst ys] S = if (zs.map (·.length)).sum + zs.length * a.length ≤ 16777216 then some (.str (Txt.join a zs), S) else none := by simp [joinM, h]
@[simp] theorem join_tup {zs : List Str} (h : strsW ys = some zs) : joinM (.str a) [.tup ys] S = if (zs.map (·.length)).sum + zs.length * a.length ≤ 16777216 then some (.str (Txt.join a zs), S) else none := by simp [joinM, h]
end

/-! ### branches -/
section
variable {α β : Type} {S S' : Store} {p : Prop} [Decidable p] {b c : Bool}
@[simp] theorem bind_ite {r1 r2 : R α} {k : α → Store → R β} : (if p then r1 else r2).bind k = if p then r1.bind k else r2.bind k := by split <;> rfl
@[simp] theorem thn_ite {r1 r2 : R α} {e : En} {k : α → Store → RS} : (if p then r1 else r2).thn e k = if p then r1.thn e k else r2.thn e k := by split <;> rfl
@[simp] theorem seq_ite {r1 r2 : RS} {k : SM} : (if p then r1 else r2).seq k = if p then r1.seq k else r2.seq k := by split <;> rfl
@[simp] theorem lift_ite {r1 r2 : Option (W × Store)} : lift (if p then r1 else r2) = if p then lift r1 else lift r2 := by split <;> rfl
@[simp] theorem ok_and {d : Bool} : (if p then R.ok (W.bl d) S else R.ok (W.bl false) S) = R.ok (.bl (decide p && d)) S := by by_cases h : p <;> simp [h]
@[simp] theorem ok_or {d : Bool} : (if p then R.ok (W.bl true) S else R.ok (W.bl d) S) = R.ok (.bl (decide p || d)) S := by by_cases h : p <;> simp [h]
@[simp] theorem ok_nand {d : Bool} : (if p then R.ok (W.bl false) S else R.ok (W.bl d) S) = R.ok (.bl (!decide p && d)) S := by by_cases h : p <;> simp [h]
@[simp] theorem ok_nor {d : Bool} : (if p then R.ok (W.bl d) S else R.ok (W.bl true) S) = R.ok (.bl (!decide p || d)) S := by by_cases h : p <;> simp [h]
@[simp] theorem okb_nand {d : Bool} : (if p then R.ok false S else R.ok d S) = R.ok (!decide p && d) S := by by_cases h : p <;> simp [h]
@[simp] theorem okb_nor {d : Bool} : (if p then R.ok d S else R.ok true S) = R.ok (!decide p || d) S := by by_cases h : p <;> simp [h]
@[simp] theorem okb_and {d : Bool} : (if p then R.ok d S else R.ok false S) = R.ok (decide p && d) S := by by_cases h : p <;> simp [h]
@[simp] theorem okb_or {d : Bool} : (if p then R.ok true S else R.ok d S) = R.ok (decide p || d) S := by by_cases h : p <;> simp [h]
@[simp] theorem seq_seq {r : RS} {a b : SM} : (r.seq a).seq b = r.seq (sSeq a b) := by cases r <;> rfl
/-- a def's end -/
def RS.fin (S : Store) (r : RS) : R W := match r with
  | .nx _ S1 => cutR S .non S1
  | .ret w S1 => cutR S w S1
  | .exc x _ S1 => cutX S x S1
  | _ => .bad
@[simp] theorem fin_nx {e : En} : RS.fin S (.nx e S') = cutR S .non S' := rfl
@[simp] theorem fin_ret {w : W} : RS.fin S (.ret w S') = cutR S w S' := rfl
@[simp] theorem fin_exc {x : Exn} {e : En} : RS.fin S (.exc x e S') = cutX S x S' := rfl
@[simp] theorem fin_bad : RS.fin S .bad = .bad := rfl
@[simp] theorem fin_ite {r1 r2 : RS} : RS.fin S (if p then r1 else r2) = if p then RS.fin S r1 else RS.fin S r2 := by split <;> rfl
theorem run_fin {ps n : Nat} {b : SM} {ws : List W} (h : ws.length = ps) : runDef ps n b ws S = RS.fin S (b (startE n ws) S) := by
  unfold runDef
  rw [if_pos h]
  rfl
@[simp] theorem run1 {n : Nat} {b : SM} {w1 : W} : runDef 1 n b [w1] S = RS.fin S (b (startE n [w1]) S) := run_fin rfl
@[simp] theorem run0 {n : Nat} {b : SM} : runDef 0 n b [] S = RS.fin S (b (startE n []) S) := run_fin rfl
@[simp] theorem run2 {n : Nat} {b : SM} {w1 w2 : W} : runDef 2 n b [w1, w2] S = RS.fin S (b (startE n [w1, w2]) S) := run_fin rfl
@[simp] theorem run3 {n : Nat} {b : SM} {w1 w2 w3 : W} : runDef 3 n b [w1, w2, w3] S = RS.fin S (b (startE n [w1, w2, w3]) S) := run_fin rfl
@[simp] theorem run4 {n : Nat} {b : SM} {w1 w2 w3 w4 : W} : runDef 4 n b [w1, w2, w3, w4] S = RS.fin S (b (startE n [w1, w2, w3, w4]) S) := run_fin rfl
@[simp] theorem run5 {n : Nat} {b : SM} {w1 w2 w3 w4 w5 : W} : runDef 5 n b [w1, w2, w3, w4, w5] S = RS.fin S (b (startE n [w1, w2, w3, w4, w5]) S) := run_fin rfl
end

/-! ### types -/
section
variable {S : Store} {x : W} {n : String} {cs : List W}
@[simp] theorem isi_ty : isiN [x, .ty n] S = (tyName x S).bind fun a => if n ∈ tyNs then some (.bl (isTy a n), S) else none := by
  simp only [isiN]
  cases tyName x S <;> rfl
@[simp] theorem isi_tup : isiN [x, .tup cs] S = (tyName x S).bind fun a => (tysW cs).map fun ns => (.bl (ns.any (isTy a)), S) := by
  simp only [isiN]
  cases tyName x S <;> rfl
@[simp] theorem tyn_non : tyName .non S = some "NoneType" := rfl
@[simp] theorem tyn_bl {b : Bool} : tyName (.bl b) S = some "bool" := rfl
@[simp] theorem tyn_int {i : Int} : tyName (.int i) S = some "int" := rfl
@[simp] theorem tyn_str {a : Str} : tyName (.str a) S = some "str" := rfl
@[simp] theorem tyn_tup {xs : List W} : tyName (.tup xs) S = some "tuple" := rfl
@[simp] theorem tyn_lst {xs : List W} : tyName (.lst xs) S = some "list" := rfl
@[simp] theorem tyn_dic {ks : List Key} {xs : List W} : tyName (.dic ks xs) S = some "dict" := rfl
@[simp] theorem tyNs_eq : tyNs = ["int", "str", "list", "tuple", "dict", "bool"] := rfl
@[simp] theorem isTy_ap {a n : String} : isTy a n = (a == n || (a == "bool" && n == "int")) := rfl
@[simp] theorem tysW_nil : tysW [] = some [] := rfl
@[simp] theorem tysW_cons : tysW (.ty n :: cs) = if n ∈ tyNs then (tysW cs).map fun ns => n :: ns else none := rfl
@[simp] theorem startE0 {k : Nat} : startE k [] = List.replicate k none := by simp [startE]
@[simp] theorem startE_cons {k : Nat} {w : W} {ws : List W} : startE (k + 1) (w :: ws) = some w :: startE k ws := by simp [startE]
end

/-! ### a def's end -/
/-- what stood at the entry names nothing newer -/
abbrev Clo (S : Store) : Prop := okS S.length S = true
mutual
theorem mapR_low {n : Nat} {f : Nat → Option W} (hf : ∀ a, a < n → f a = some (.ref a)) : ∀ {w : W}, lowW n w = true → mapR f w = some w
  | .non, _ => rfl
  | .bl _, _ => rfl
  | .int _, _ => rfl
  | .str _, _ => rfl
  | .ty _, _ => rfl
  | .glo _, _ => rfl
  | .scr _, _ => rfl
  | .ref a, h => by simp only [lowW, decide_eq_true_eq] at h; simp only [mapR]; exact hf a h
  | .tup ws, h => by simp only [lowW] at h; simp only [mapR, mapRs_low hf h]; rfl
  | .lst ws, h => by simp only [lowW] at h; simp only [mapR, mapRs_low hf h]; rfl
  | .dic ks ws, h => by simp only [lowW] at h; simp only [mapR, mapRs_low hf h]; rfl
theorem mapRs_low {n : Nat} {f : Nat → Option W} (hf : ∀ a, a < n → f a = some (.ref a)) : ∀ {ws : List W}, lowWs n ws = true → mapRs f ws = some ws
  | [], _ => rfl
  | w :: ws, h => by
    simp only [lowWs, Bool.and_eq_true] at h
    simp only [mapRs, mapR_low hf h.1, mapRs_low hf h.2]
end
theorem fzD_low {n : Nat} {S : Store} {w : W} (h : lowW n w = true) : ∀ d, fzD n S d w = some w
  | 0 => by simp only [fzD, h, if_true]
  | d + 1 => by simp only [fzD]; exact mapR_low (fun a ha => by rw [if_pos ha]) h
theorem fzL_low {n : Nat} {S : Store} {d : Nat} : ∀ {ws : List W}, lowWs n ws = true → fzL (fzD n S d) ws = some ws
  | [], _ => rfl
  | w :: ws, h => by
    simp only [lowWs, Bool.and_eq_true] at h
    simp only [fzL, fzD_low h.1, fzL_low h.2]
theorem fzD_ref {n d a : Nat} {S : Store} {ws : List W} (ha : ¬ a < n) (e : S[a]? = some (.lst ws)) (hw : lowWs n ws = true) : fzD n S (d + 1) (.ref a) = some (.lst ws) := by
  simp only [fzD, mapR]
  rw [if_neg ha, e]
  dsimp only
  rw [fzL_low hw]
  rfl
theorem okS_app {S J : Store} : okS S.length (S ++ J) = okS S.length S := by simp [okS]
/-- a def's end: a result that names nothing new -/
theorem cut_low {S J : Store} {w : W} (hS : Clo S) (hw : lowW S.length w = true) : cutR S w (S ++ J) = .ok w S := by
  unfold cutR
  rw [fzD_low hw]
  simp only [okS_app, hS, if_true, List.take_left]
theorem cut_self {S : Store} {w : W} (hS : Clo S) (hw : lowW S.length w = true) : cutR S w S = .ok w S := by
  have := cut_low (J := []) hS hw
  simpa using this
/-- .. a list that was made here -/
theorem cut_lst {S J : Store} {ws : List W} (hS : Clo S) (hw : lowWs S.length ws = true) : cutR S (.ref S.length) (S ++ .lst ws :: J) = .ok (.lst ws) S := by
  unfold cutR
  rw [fzD_ref (ws := ws) (Nat.lt_irrefl _) (by simp) hw]
  simp only [okS_app, hS, if_true, List.take_left]
@[simp] theorem cut_bl {S J : Store} {b : Bool} (hS : okS S.length S = true) : cutR S (.bl b) (S ++ J) = .ok (.bl b) S := cut_low hS rfl
@[simp] theorem cut_bl0 {S : Store} {b : Bool} (hS : okS S.length S = true) : cutR S (.bl b) S = .ok (.bl b) S := cut_self hS rfl
@[simp] theorem cut_int {S J : Store} {b : Int} (hS : okS S.length S = true) : cutR S (.int b) (S ++ J) = .ok (.int b) S := cut_low hS rfl
@[simp] theorem cut_int0 {S : Store} {b : Int} (hS : okS S.length S = true) : cutR S (.int b) S = .ok (.int b) S := cut_self hS rfl
@[simp] theorem cut_strv {S J : Store} {b : Str} (hS : okS S.length S = true) : cutR S (.str b) (S ++ J) = .ok (.str b) S := cut_low hS rfl
@[simp] theorem cut_str0 {S : Store} {b : Str} (hS : okS S.length S = true) : cutR S (.str b) S = .ok (.str b) S := cut_self hS rfl
@[simp] theorem cut_non0 {S : Store} (hS : okS S.length S = true) : cutR S .non S = .ok .non S := cut_self hS rfl

/-! ### for -/
theorem forN_all {v : Nat} {b : SM} {ws : List W} {e : En} {S : Store} {p : W → Bool} {r : W} (hb : ∀ w, w ∈ ws → b (e.set v (some w)) S = if p w = true then .nx (e.set v (some w)) S else .ret r S) :
    ∀ n i y, ws.length < n + i → i ≤ ws.length → ∃ x, forN (itT ws) (gVar v) b n i (e.set v y) S = if (ws.drop i).all p = true then .nx (e.set v x) S else .ret r S
  | 0, i, y, h, h2 => by omega
  | n + 1, i, y, h, h2 => by
    simp only [forN, itT]
    cases e1 : ws[i]? with
    | none =>
      have := List.getElem?_eq_none_iff.mp e1
      refine ⟨y, ?_⟩
      rw [List.drop_eq_nil_of_le this]
      simp
    | some w =>
      have hi := (List.getElem?_eq_some_iff.mp e1)
      have hi1 := hi.1
      have hd : ws.drop i = w :: ws.drop (i + 1) := by
        rw [List.drop_eq_getElem_cons hi.1, hi.2]
      dsimp only [gVar]
      rw [List.set_set, hb w (List.mem_of_getElem? e1), hd]
      by_cases hp : p w = true
      · rw [if_pos hp]
        obtain ⟨x, hx⟩ := forN_all hb n (i + 1) (some w) (by omega) (by omega)
        refine ⟨x, ?_⟩
        dsimp only
        rw [hx, List.all_cons, hp, Bool.true_and]
      · rw [if_neg hp]
        refine ⟨y, ?_⟩
        rw [List.all_cons]
        have hp' : p w = false := by simpa using hp
        simp [hp']
/-- for x in xs: if not p(x): return r -/
theorem sFor_all {v : Nat} {b : SM} {ws : List W} {e : En} {S : Store} {p : W → Bool} {r : W} {it : IM} (hi : it e S = .ok (itT ws) S) (hb : ∀ w, w ∈ ws → b (e.set v (some w)) S = if p w = true then .nx (e.set v (some w)) S else .ret r S)
    (hl : ws.length < fuel) (hv : v < e.length) : ∃ x, sFor it (gVar v) b e S = if ws.all p = true then .nx (e.set v x) S else .ret r S := by
  obtain ⟨x, hx⟩ := forN_all hb fuel 0 (e[v]) (by simpa using hl) (Nat.zero_le _)
  refine ⟨x, ?_⟩
  simp only [sFor, hi, R.thn_ok]
  rw [List.set_getElem_self, List.drop_zero] at hx
  exact hx
/-- THE RULE for a loop over what is walked: I at the turns, P at the end -/
theorem forN_inv {J : ItM} {g : GM} {b : SM} (I : Nat → En → Store → Prop) (P : RS → Prop) (N : Nat) (hN : ∀ i e S, I i e S → i ≤ N)
    (step : ∀ i e S, I i e S → (J i S = some none ∧ P (.nx e S)) ∨ ∃ w e1 S1, J i S = some (some w) ∧ g w e S = some (e1, S1) ∧ match b e1 S1 with
      | .nx e2 S2 => I (i + 1) e2 S2
      | .cnt e2 S2 => I (i + 1) e2 S2
      | .brk e2 S2 => P (.nx e2 S2)
      | r => P r) : ∀ n i e S, N < n + i → I i e S → P (forN J g b n i e S)
  | 0, i, e, S, h, hI => by have := hN i e S hI; omega
  | n + 1, i, e, S, h, hI => by
    simp only [forN]
    rcases step i e S hI with ⟨h1, h2⟩ | ⟨w, e1, S1, h1, h2, h3⟩
    · rw [h1]; exact h2
    · rw [h1]
      dsimp only
      rw [h2]
      dsimp only
      cases hb : b e1 S1 with
      | nx e2 S2 => rw [hb] at h3; exact forN_inv I P N hN step n (i + 1) e2 S2 (by omega) h3
      | cnt e2 S2 => rw [hb] at h3; exact forN_inv I P N hN step n (i + 1) e2 S2 (by omega) h3
      | brk e2 S2 => rw [hb] at h3; exact h3
      | ret w S2 => rw [hb] at h3; exact h3
      | exc x e2 S2 => rw [hb] at h3; exact h3
      | bad => rw [hb] at h3; exact h3
theorem sFor_inv {it : IM} {J : ItM} {g : GM} {b : SM} {e : En} {S : Store} (I : Nat → En → Store → Prop) (P : RS → Prop) (N : Nat) (hf : N < fuel) (hi : it e S = .ok J S) (h0 : I 0 e S) (hN : ∀ i e S, I i e S → i ≤ N)
    (step : ∀ i e S, I i e S → (J i S = some none ∧ P (.nx e S)) ∨ ∃ w e1 S1, J i S = some (some w) ∧ g w e S = some (e1, S1) ∧ match b e1 S1 with
      | .nx e2 S2 => I (i + 1) e2 S2
      | .cnt e2 S2 => I (i + 1) e2 S2
      | .brk e2 S2 => P (.nx e2 S2)
      | r => P r) : P (sFor it g b e S) := by
  simp only [sFor, hi, R.thn_ok]
  exact forN_inv I P N hN step fuel 0 e S (by simpa using hf) h0
theorem whileN_inv {c : TM} {b : SM} (I : Nat → En → Store → Prop) (P : RS → Prop)
    (step : ∀ m e S, I m e S → ∃ k S1, c e S = .ok k S1 ∧ ((k = false ∧ P (.nx e S1)) ∨ (k = true ∧ ∃ m', m = m' + 1 ∧ match b e S1 with
      | .nx e2 S2 => I m' e2 S2
      | .cnt e2 S2 => I m' e2 S2
      | .brk e2 S2 => P (.nx e2 S2)
      | r => P r))) : ∀ n m e S, m < n → I m e S → P (whileN c b n e S)
  | 0, m, e, S, h, hI => by omega
  | n + 1, m, e, S, h, hI => by
    simp only [whileN]
    obtain ⟨k, S1, h1, h2⟩ := step m e S hI
    rw [h1]
    dsimp only
    rcases h2 with ⟨rfl, h2⟩ | ⟨rfl, m', rfl, h3⟩
    · rw [if_neg Bool.false_ne_true]; exact h2
    · rw [if_pos rfl]
      cases hb : b e S1 with
      | nx e2 S2 => rw [hb] at h3; exact whileN_inv I P step n m' e2 S2 (by omega) h3
      | cnt e2 S2 => rw [hb] at h3; exact whileN_inv I P step n m' e2 S2 (by omega) h3
      | brk e2 S2 => rw [hb] at h3; exact h3
      | ret w S2 => rw [hb] at h3; exact h3
      | exc x e2 S2 => rw [hb] at h3; exact h3
      | bad => rw [hb] at h3; exact h3
theorem sWhile_inv {c : TM} {b : SM} {e : En} {S : Store} (I : Nat → En → Store → Prop) (P : RS → Prop) (m : Nat) (hm : m < fuel) (h0 : I m e S)
    (step : ∀ m e S, I m e S → ∃ k S1, c e S = .ok k S1 ∧ ((k = false ∧ P (.nx e S1)) ∨ (k = true ∧ ∃ m', m = m' + 1 ∧ match b e S1 with
      | .nx e2 S2 => I m' e2 S2
      | .cnt e2 S2 => I m' e2 S2
      | .brk e2 S2 => P (.nx e2 S2)
      | r => P r))) : P (sWhile c b e S) := whileN_inv I P step fuel m e S hm h0
/-! ### comprehensions -/
theorem lcN_inv {J : ItM} {g : GM} {t : TM} {a : EM} {e0 : En} (I : Nat → List W → Store → Prop) (N : Nat) (hN : ∀ i acc S, I i acc S → i ≤ N)
    (step : ∀ i acc S, I i acc S → (J i S = some none ∧ i = N) ∨ ∃ w e1 S1 k S2, J i S = some (some w) ∧ g w e0 S = some (e1, S1) ∧ t e1 S1 = .ok k S2 ∧ (k = false ∧ I (i + 1) acc S2 ∨ k = true ∧ ∃ x S3, a e1 S2 = .ok x S3 ∧ acc.length < sizeLine ∧ I (i + 1) (acc ++ [x]) S3)) :
    ∀ n i acc S, N < n + i → I i acc S → ∃ xs S', lcN J g t a e0 n i acc S = .ok xs S' ∧ I N xs S'
  | 0, i, acc, S, h, hI => by have := hN i acc S hI; omega
  | n + 1, i, acc, S, h, hI => by
    simp only [lcN]
    rcases step i acc S hI with ⟨h1, h2⟩ | ⟨w, e1, S1, k, S2, h1, h2, h3, h4⟩
    · rw [h1]; subst h2; exact ⟨acc, S, rfl, hI⟩
    · rw [h1]
      dsimp only
      rw [h2]
      dsimp only
      rw [h3]
      simp only [R.bind_ok]
      rcases h4 with ⟨rfl, h4⟩ | ⟨rfl, x, S3, h4, h5, h6⟩
      · rw [if_neg Bool.false_ne_true]
        exact lcN_inv I N hN step n (i + 1) acc S2 (by omega) h4
      · rw [if_pos rfl, h4]
        simp only [R.bind_ok]
        rw [if_pos h5]
        exact lcN_inv I N hN step n (i + 1) (acc ++ [x]) S3 (by omega) h6
theorem lc_inv {m : Bool} {it : IM} {J : ItM} {own : List Nat} {g : GM} {t : TM} {a : EM} {e : En} {S : Store} (I : Nat → List W → Store → Prop) (N : Nat) (hf : N < fuel) (hi : it e S = .ok J S) (h0 : I 0 [] S) (hN : ∀ i acc S, I i acc S → i ≤ N)
    (step : ∀ i acc S, I i acc S → (J i S = some none ∧ i = N) ∨ ∃ w e1 S1 k S2, J i S = some (some w) ∧ g w (wipeE e own) S = some (e1, S1) ∧ t e1 S1 = .ok k S2 ∧ (k = false ∧ I (i + 1) acc S2 ∨ k = true ∧ ∃ x S3, a e1 S2 = .ok x S3 ∧ acc.length < sizeLine ∧ I (i + 1) (acc ++ [x]) S3)) :
    ∃ xs S', eLc m it own g t a e S = .ok (mkL m xs S').1 (mkL m xs S').2 ∧ I N xs S' := by
  obtain ⟨xs, S', h1, h2⟩ := lcN_inv I N hN step fuel 0 [] S (by simpa using hf) h0
  refine ⟨xs, S', ?_, h2⟩
  simp only [eLc, hi, R.bind_ok, h1, R.noexc]
/-- [f(x) for x in xs] -/
theorem lc_map {m : Bool} {it : IM} {own : List Nat} {v : Nat} {a : EM} {e : En} {S : Store} {ws : List W} {f : W → W} (hi : it e S = .ok (itT ws) S) (hl : ws.length ≤ sizeLine) (ha : ∀ w, w ∈ ws → a ((wipeE e own).set v (some w)) S = .ok (f w) S) :
    eLc m it own (gVar v) tYesM a e S = .ok (mkL m (ws.map f) S).1 (mkL m (ws.map f) S).2 := by
  have hf : ws.length < fuel := Nat.lt_of_le_of_lt hl fuel_line
  obtain ⟨xs, S', h1, h2, h3⟩ := lc_inv (m := m) (it := it) (own := own) (g := gVar v) (t := tYesM) (a := a) (e := e) (S := S) (fun i acc S' => S' = S ∧ i ≤ ws.length ∧ acc = (ws.take i).map f) ws.length hf hi ⟨rfl, Nat.zero_le _, by simp⟩ (fun i acc S h => h.2.1) (by
    rintro i acc S' ⟨rfl, hi, rfl⟩
    cases e1 : ws[i]? with
    | none =>
      have := List.getElem?_eq_none_iff.mp e1
      exact .inl ⟨by simp [itT, e1], by omega⟩
    | some w =>
      have hlt := (List.getElem?_eq_some_iff.mp e1).1
      refine .inr ⟨w, _, _, true, _, by simp [itT, e1], rfl, rfl, .inr ⟨rfl, f w, _, ha w (List.mem_of_getElem? e1), ?_, rfl, hlt, ?_⟩⟩
      · rw [List.length_map, List.length_take]; omega
      · rw [List.take_add_one, e1]; simp)
  obtain ⟨rfl, _, rfl⟩ := (⟨h2, h3⟩ : S' = S ∧ ws.length ≤ ws.length ∧ xs = (ws.take ws.length).map f)
  rw [h1, List.take_length]
/-- [f(x) for x in xs if p(x)] -/
theorem lc_filter {m : Bool} {it : IM} {own : List Nat} {v : Nat} {t : TM} {a : EM} {e : En} {S : Store} {ws : List W} {p : W → Bool} {f : W → W} (hi : it e S = .ok (itT ws) S) (hl : ws.length ≤ sizeLine) (ht : ∀ w, w ∈ ws → t ((wipeE e own).set v (some w)) S = .ok (p w) S) (ha : ∀ w, w ∈ ws → p w = true → a ((wipeE e own).set v (some w)) S = .ok (f w) S) :
    eLc m it own (gVar v) t a e S = .ok (mkL m ((ws.filter p).map f) S).1 (mkL m ((ws.filter p).map f) S).2 := by
  have hf : ws.length < fuel := Nat.lt_of_le_of_lt hl fuel_line
  obtain ⟨xs, S', h1, h2, h3⟩ := lc_inv (m := m) (it := it) (own := own) (g := gVar v) (t := t) (a := a) (e := e) (S := S) (fun i acc S' => S' = S ∧ i ≤ ws.length ∧ acc = ((ws.take i).filter p).map f) ws.length hf hi ⟨rfl, Nat.zero_le _, by simp⟩ (fun i acc S h => h.2.1) (by
    rintro i acc S' ⟨rfl, hi, rfl⟩
    cases e1 : ws[i]? with
    | none =>
      have := List.getElem?_eq_none_iff.mp e1
      exact .inl ⟨by simp [itT, e1], by omega⟩
    | some w =>
      have hlt := (List.getElem?_eq_some_iff.mp e1).1
      have hm := List.mem_of_getElem? e1
      refine .inr ⟨w, _, _, p w, _, by simp [itT, e1], rfl, ht w hm, ?_⟩
      cases hp : p w with
      | false => refine .inl ⟨rfl, rfl, hlt, ?_⟩; rw [List.take_add_one, e1]; simp [hp]
      | true =>
        refine .inr ⟨rfl, f w, _, ha w hm hp, ?_, rfl, hlt, ?_⟩
        · rw [List.length_map]
          have := List.length_filter_le p (ws.take i)
          rw [List.length_take] at this; omega
        · rw [List.take_add_one, e1]; simp [hp])
  obtain ⟨rfl, _, rfl⟩ := (⟨h2, h3⟩ : S' = S ∧ ws.length ≤ ws.length ∧ xs = ((ws.take ws.length).filter p).map f)
  rw [h1, List.take_length]
/-- a test of a sign -/
def chrB (f : Nat → Bool) : W → Bool
  | .str z => f (z.cps.getD 0 0)
  | _ => false
@[simp] theorem chrB_chr {f : Nat → Bool} {c : Nat} : chrB f (chrW c) = f c := rfl
theorem all_chr {f : Nat → Bool} {cs : List Nat} : (cs.map chrW).all (chrB f) = cs.all f := by
  rw [List.all_map]; rfl
theorem len_cps {x : Str} : x.cps.toList.length = x.length := rfl
/-- for c in text: if not p(c): return r -/
theorem sFor_chr {v : Nat} {b : SM} {x : Str} {e : En} {S : Store} {p : Nat → Bool} {r : W} {it : IM} (hi : it e S = .ok (itT (x.cps.toList.map chrW)) S)
    (hb : ∀ c, c ∈ x.cps.toList → b (e.set v (some (chrW c))) S = if p c = true then .nx (e.set v (some (chrW c))) S else .ret r S)
    (hl : x.length ≤ sizeLine) (hv : v < e.length) : ∃ y, sFor it (gVar v) b e S = if x.cps.toList.all p = true then .nx (e.set v y) S else .ret r S := by
  obtain ⟨y, hy⟩ := sFor_all (p := chrB p) (r := r) (b := b) (v := v) hi (fun w hw => by
    obtain ⟨c, hc, rfl⟩ := List.mem_map.mp hw
    rw [chrB_chr]
    exact hb c hc) (by rw [List.length_map, len_cps]; exact Nat.lt_of_le_of_lt hl fuel_line) hv
  rw [all_chr] at hy
  exact ⟨y, hy⟩
/-! ### a loop, then the rest of the def -/
section
variable {S0 S : Store} {e : En} {k : SM} {X : R W}
theorem fin_inv {it : IM} {J : ItM} {g : GM} {b : SM} (I : Nat → En → Store → Prop) (N : Nat) (hf : N < fuel) (hi : it e S = .ok J S) (h0 : I 0 e S) (hN : ∀ i e S, I i e S → i ≤ N)
    (step : ∀ i e S, I i e S → (J i S = some none ∧ RS.fin S0 (k e S) = X) ∨ ∃ w e1 S1, J i S = some (some w) ∧ g w e S = some (e1, S1) ∧ match b e1 S1 with
      | .nx e2 S2 => I (i + 1) e2 S2
      | .cnt e2 S2 => I (i + 1) e2 S2
      | .brk e2 S2 => RS.fin S0 (k e2 S2) = X
      | r => RS.fin S0 r = X) : RS.fin S0 ((sFor it g b e S).seq k) = X :=
  sFor_inv (P := fun r => RS.fin S0 (r.seq k) = X) I N hf hi h0 hN fun i e S h => by
    rcases step i e S h with ⟨h1, h2⟩ | ⟨w, e1, S1, h1, h2, h3⟩
    · exact .inl ⟨h1, h2⟩
    · refine .inr ⟨w, e1, S1, h1, h2, ?_⟩
      cases hb : b e1 S1 <;> (rw [hb] at h3; exact h3)
theorem fin_all {v : Nat} {b : SM} {ws : List W} {it : IM} (p : W → Bool) (r : W) (hi : it e S = .ok (itT ws) S) (hb : ∀ w, w ∈ ws → b (e.set v (some w)) S = if p w = true then .nx (e.set v (some w)) S else .ret r S)
    (hl : ws.length ≤ sizeLine) (hv : v < e.length) (h1 : ws.all p = true → ∀ y, RS.fin S0 (k (e.set v y) S) = X) (h2 : ws.all p = false → cutR S0 r S = X) : RS.fin S0 ((sFor it (gVar v) b e S).seq k) = X := by
  obtain ⟨y, hy⟩ := sFor_all hi hb (Nat.lt_of_le_of_lt hl fuel_line) hv
  rw [hy]
  cases h : ws.all p with
  | true => rw [if_pos rfl]; exact h1 h y
  | false => rw [if_neg Bool.false_ne_true]; exact h2 h
theorem fin_chr {v : Nat} {b : SM} {x : Str} {it : IM} (p : Nat → Bool) (r : W) (hi : it e S = .ok (itT (x.cps.toList.map chrW)) S) (hb : ∀ c, c ∈ x.cps.toList → b (e.set v (some (chrW c))) S = if p c = true then .nx (e.set v (some (chrW c))) S else .ret r S)
    (hl : x.length ≤ sizeLine) (hv : v < e.length) (h1 : x.cps.toList.all p = true → ∀ y, RS.fin S0 (k (e.set v y) S) = X) (h2 : x.cps.toList.all p = false → cutR S0 r S = X) : RS.fin S0 ((sFor it (gVar v) b e S).seq k) = X := by
  obtain ⟨y, hy⟩ := sFor_chr hi hb hl hv
  rw [hy]
  cases h : x.cps.toList.all p with
  | true => rw [if_pos rfl]; exact h1 h y
  | false => rw [if_neg Bool.false_ne_true]; exact h2 h
theorem fin_while {c : TM} {b : SM} (I : Nat → En → Store → Prop) (m : Nat) (hm : m < fuel) (h0 : I m e S)
    (step : ∀ m e S, I m e S → ∃ q S1, c e S = .ok q S1 ∧ ((q = false ∧ RS.fin S0 (k e S1) = X) ∨ (q = true ∧ ∃ m', m = m' + 1 ∧ match b e S1 with
      | .nx e2 S2 => I m' e2 S2
      | .cnt e2 S2 => I m' e2 S2
      | .brk e2 S2 => RS.fin S0 (k e2 S2) = X
      | r => RS.fin S0 r = X))) : RS.fin S0 ((sWhile c b e S).seq k) = X :=
  sWhile_inv (P := fun r => RS.fin S0 (r.seq k) = X) I m hm h0 fun m e S h => by
    obtain ⟨q, S1, h1, h2⟩ := step m e S h
    refine ⟨q, S1, h1, ?_⟩
    rcases h2 with h2 | ⟨h2, m', h3, h4⟩
    · exact .inl h2
    · refine .inr ⟨h2, m', h3, ?_⟩
      cases hb : b e S1 <;> (rw [hb] at h4; exact h4)
end
section
variable {S : Store} {c : Nat} {b : Str} {m : Bool}
@[simp] theorem eq_chr : eqW (chrW c) (.str b) S = some (.bl (decide ((⟨#[c]⟩ : Str) = b)), S) := by simp [chrW]
@[simp] theorem in_chr {G : GD} : inW G (chrW c) (.str b) S = some (.bl (decide (c ∈ b.cps.toList)), S) := by simp [chrW, inW, inB]
@[simp] theorem chr_inj {c' : Nat} : ((⟨#[c]⟩ : Str) = ⟨#[c']⟩) ↔ c = c' := by simp
theorem atI_nn {α : Type} {xs : List α} {i : Nat} : atI xs (i : Int) = xs[i]? := by
  cases e : xs[i]? with
  | some v => exact atI_nat e
  | none =>
    have h := List.getElem?_eq_none_iff.mp e
    unfold atI ixN
    rw [if_pos (by omega), if_neg (by omega)]
    rfl
@[simp] theorem atI_n {α : Type} {xs : List α} {i : Nat} : atI xs (i : Int) = xs[i]? := atI_nn
@[simp] theorem atI_0 {α : Type} {xs : List α} : atI xs 0 = xs[0]? := atI_nn (i := 0)
@[simp] theorem atI_1 {α : Type} {xs : List α} : atI xs 1 = xs[1]? := atI_nn (i := 1)
@[simp] theorem atI_2 {α : Type} {xs : List α} : atI xs 2 = xs[2]? := atI_nn (i := 2)
@[simp] theorem atI_3 {α : Type} {xs : List α} : atI xs 3 = xs[3]? := atI_nn (i := 3)
@[simp] theorem atI_s {α : Type} {xs : List α} {i : Nat} : atI xs ((i : Int) + 1) = xs[i + 1]? := atI_nn (i := i + 1)
end
theorem big_cast : big = ((4611686018427387904 : Nat) : Int) := big_def
theorem big_nat {n : Nat} (h : n ≤ 16777216) : -big ≤ (n : Int) ∧ (n : Int) < big := by
  rw [big_cast]
  exact ⟨Int.le_trans (Int.neg_nonpos_of_nonneg (Int.natCast_nonneg _)) (Int.natCast_nonneg n), Int.ofNat_lt.mpr (Nat.lt_of_le_of_lt h (by decide))⟩
theorem rngJ_nat0 {m n : Int} {S : Store} (h : -big ≤ m ∧ m < big ∧ -big ≤ n ∧ n < big) : rngJ m n S = .ok (itR m (n - m).toNat) S := by
  unfold rngJ
  exact if_pos h
theorem rngJ_nat {m n : Nat} {S : Store} (hm : m ≤ 16777216) (hn : n ≤ 16777216) : rngJ m n S = .ok (itR m (n - m)) S := by
  rw [rngJ_nat0 ⟨(big_nat hm).1, (big_nat hm).2, (big_nat hn).1, (big_nat hn).2⟩]
  have : ((n : Int) - m).toNat = n - m := by omega
  rw [this]
theorem rngJ_nat1 {n : Nat} {S : Store} (hn : n ≤ 16777216) : rngJ 0 n S = .ok (itR 0 n) S := by
  have h := rngJ_nat (m := 0) (n := n) (S := S) (Nat.zero_le _) hn
  rw [Int.natCast_zero, Nat.sub_zero] at h
  exact h
theorem iR_e {a : EM} {e : En} {S S1 : Store} {n : Int} (h : a e S = .ok (.int n) S1) : iRange1 a e S = rngJ 0 n S1 := by
  unfold iRange1
  rw [h, R.bind_ok]
theorem iRange1_ok {a : EM} {e : En} {S S1 : Store} {n : Nat} (h : a e S = .ok (.int n) S1) (hn : n ≤ 16777216) : iRange1 a e S = .ok (itR 0 n) S1 := (iR_e h).trans (rngJ_nat1 hn)
theorem iR_e2 {a b : EM} {e : En} {S S1 S2 : Store} {m n : Int} (h : a e S = .ok (.int m) S1) (h2 : b e S1 = .ok (.int n) S2) : iRange2 a b e S = rngJ m n S2 := by
  unfold iRange2
  rw [h, R.bind_ok, h2, R.bind_ok]
theorem iRange2_ok {a b : EM} {e : En} {S S1 S2 : Store} {m n : Nat} (h : a e S = .ok (.int m) S1) (h2 : b e S1 = .ok (.int n) S2) (hm : m ≤ 16777216) (hn : n ≤ 16777216) : iRange2 a b e S = .ok (itR m (n - m)) S2 := (iR_e2 h h2).trans (rngJ_nat hm hn)
theorem iE_ok {a : EM} {e : En} {S S1 : Store} {w : W} {J : ItM} (h : a e S = .ok w S1) (hw : iterW w S1 = some J) : iE a e S = .ok J S1 := by
  simp only [iE, h, R.bind_ok, hw]
@[simp] theorem itR_lt {lo : Int} {n i : Nat} {S : Store} (h : i < n) : itR lo n i S = some (some (.int (lo + i))) := by simp [itR, h]
theorem itR_ge {lo : Int} {n i : Nat} {S : Store} (h : ¬ i < n) : itR lo n i S = some none := by simp [itR, h]
/-! ### a list that is being made, on top of the store -/
section
variable {S J : Store} {acc ys : List W} {x y : W}
theorem top_get {ob : Ob} : (S ++ ob :: J)[S.length]? = some ob := by simp
theorem top_set {ob ob' : Ob} : (S ++ ob :: J).set S.length ob' = S ++ ob' :: J := by simp
@[simp] theorem acc_ty : tyM "list" (.ref S.length) (S ++ .lst acc :: J) = true := by simp [tyM]
@[simp] theorem acc_append : appendM (.ref S.length) [x] (S ++ .lst acc :: J) = if acc.length < sizeLine then some (.non, S ++ .lst (acc ++ [x]) :: J) else none := by
  simp [appendM]
theorem acc_ext_tup : extM (.ref S.length) [.tup ys] (S ++ .lst acc :: J) = if acc.length + ys.length ≤ sizeLine then some (.non, S ++ .lst (acc ++ ys) :: J) else none := by
  simp [extM]
theorem acc_ext_lst : extM (.ref S.length) [.lst ys] (S ++ .lst acc :: J) = if acc.length + ys.length ≤ sizeLine then some (.non, S ++ .lst (acc ++ ys) :: J) else none := by
  simp [extM]
@[simp] theorem acc_pop : popM (.ref S.length) [] (S ++ .lst (acc ++ [x]) :: J) = some (x, S ++ .lst acc :: J) := by
  simp [popM]
@[simp] theorem acc_len : lenN [.ref S.length] (S ++ .lst acc :: J) = some (.int acc.length, S ++ .lst acc :: J) := by simp [lenN, lsW]
@[simp] theorem acc_tru : truW (.ref S.length) (S ++ .lst acc :: J) = some (!acc.isEmpty) := by simp [truW]
end
mutual
theorem lowW_mono {n m : Nat} (h : n ≤ m) : ∀ {w : W}, lowW n w = true → lowW m w = true
  | .non, _ => rfl
  | .bl _, _ => rfl
  | .int _, _ => rfl
  | .str _, _ => rfl
  | .ty _, _ => rfl
  | .glo _, _ => rfl
  | .scr _, _ => rfl
  | .ref a, e => by simp only [lowW, decide_eq_true_eq] at e ⊢; omega
  | .tup ws, e => by simp only [lowW] at e ⊢; exact lowWs_mono h e
  | .lst ws, e => by simp only [lowW] at e ⊢; exact lowWs_mono h e
  | .dic ks ws, e => by simp only [lowW] at e ⊢; exact lowWs_mono h e
theorem lowWs_mono {n m : Nat} (h : n ≤ m) : ∀ {ws : List W}, lowWs n ws = true → lowWs m ws = true
  | [], _ => rfl
  | w :: ws, e => by
    simp only [lowWs, Bool.and_eq_true] at e ⊢
    exact ⟨lowW_mono h e.1, lowWs_mono h e.2⟩
end
theorem lowWs_all {n : Nat} : ∀ {ws : List W}, lowWs n ws = true ↔ ∀ w ∈ ws, lowW n w = true
  | [] => by simp [lowWs]
  | w :: ws => by simp [lowWs, lowWs_all (ws := ws)]
theorem lowO_mono {n m : Nat} (h : n ≤ m) {o : Ob} (ho : lowO n o = true) : lowO m o = true := by
  cases o with
  | lst ws => exact lowWs_mono h ho
  | dic kvs => exact lowWs_mono h ho
  | ins c fs => exact lowWs_mono h ho
theorem clo_iff {S : Store} : Clo S ↔ ∀ o ∈ S, lowO S.length o = true := by
  show okS S.length S = true ↔ _
  unfold okS
  rw [List.take_length, List.all_eq_true]
theorem clo_push {S : Store} {o : Ob} (hS : Clo S) (h : lowO (S.length + 1) o = true) : Clo (S ++ [o]) := by
  rw [clo_iff] at hS ⊢
  intro x hx
  have e : (S ++ [o]).length = S.length + 1 := by simp
  rw [e]
  rcases List.mem_append.mp hx with hx | hx
  · exact lowO_mono (Nat.le_succ _) (hS x hx)
  · rw [List.mem_singleton.mp hx]; exact h
theorem clo_set {S : Store} {o : Ob} {i : Nat} (hS : Clo S) (h : lowO S.length o = true) : Clo (S.set i o) := by
  rw [clo_iff] at hS ⊢
  intro x hx
  rw [List.length_set]
  rcases List.mem_or_eq_of_mem_set hx with hx | hx
  · exact hS x hx
  · rw [hx]; exact h
@[simp] theorem ty_strv {S : Store} {a : Str} : tyM "str" (.str a) S = true := rfl
end Sh

set_option Elab.async false
set_option linter.all false
set_option maxRecDepth 100000
set_option maxHeartbeats 2000000
namespace Sh
open PySem L2
/-! ### data -/
mutual
/-- data of moderate size -/
def dtW : W → Bool
  | .non => true
  | .bl _ => true
  | .int i => decide (-1000000000000 ≤ i) && decide (i ≤ 1000000000000)
  | .str x => decide (x.length ≤ 1000)
  | .tup ws => decide (ws.length ≤ 1000) && dtWs ws
  | .lst ws => decide (ws.length ≤ 1000) && dtWs ws
  | .ref _ => false
  | .ty _ => false
  | .glo _ => false
  | .dic _ ws => decide (ws.length ≤ 1000) && dtWs ws
  | .scr _ => false
def dtWs : List W → Bool
  | [] => true
  | w :: ws => dtW w && dtWs ws
end
theorem dtWs_all : ∀ {ws : List W}, dtWs ws = true ↔ ∀ w ∈ ws, dtW w = true
  | [] => by simp [dtWs]
  | w :: ws => by simp [dtWs, dtWs_all (ws := ws)]
mutual
theorem dt_low {n : Nat} : ∀ {w : W}, dtW w = true → lowW n w = true
  | .non, _ => rfl
  | .bl _, _ => rfl
  | .int _, _ => rfl
  | .str _, _ => rfl
  | .tup ws, h => by simp only [dtW, Bool.and_eq_true] at h; simp only [lowW]; exact dt_lows h.2
  | .lst ws, h => by simp only [dtW, Bool.and_eq_true] at h; simp only [lowW]; exact dt_lows h.2
  | .ref _, h => by cases h
  | .ty _, _ => rfl
  | .glo _, _ => rfl
  | .dic _ ws, h => by simp only [dtW, Bool.and_eq_true] at h; simp only [lowW]; exact dt_lows h.2
  | .scr _, _ => rfl
theorem dt_lows {n : Nat} : ∀ {ws : List W}, dtWs ws = true → lowWs n ws = true
  | [], _ => rfl
  | w :: ws, h => by
    simp only [dtWs, Bool.and_eq_true] at h
    simp only [lowWs, dt_low h.1, dt_lows h.2, Bool.and_self]
end
def rowW : W → Option (List W)
  | .tup ws => some ws
  | .lst ws => some ws
  | _ => none
@[simp] theorem szl : sizeLine = 16777216 := rfl
@[simp] theorem row_tup {ws : List W} : rowW (.tup ws) = some ws := rfl
@[simp] theorem row_lst {ws : List W} : rowW (.lst ws) = some ws := rfl
variable {n : Nat} {S : Store}
theorem is_row_eq (hS : Clo S) {w : W} (hd : dtW w = true) : F (n + 1) .f_is_row [w] S = .ok (.bl (rowW w).isSome) S := by
  cases w <;> first | (cases hd; done) | simp [F_is_row, b_is_row, hS, rowW]
def intB (lo hi : Int) : W → Bool
  | .int i => decide (lo ≤ i) && decide (i ≤ hi)
  | _ => false
theorem is_integer_eq (hS : Clo S) {w : W} (hd : dtW w = true) {lo hi : Int} : F (n + 1) .f_is_integer [w, .int lo, .int hi] S = .ok (.bl (intB lo hi w)) S := by
  cases w <;> first | (cases hd; done) | simp [F_is_integer, b_is_integer, hS, intB]
/-! ### texts -/
def wordsL : List Str := "nothing" :: "first" :: "no" :: "if" :: "most" :: "again" :: "to" :: "items" :: "every" :: "while" :: "do" :: "call" :: "back" :: "out" :: "fall" :: "keep" :: "ask" :: "anew" :: "scan" :: "move" :: "tab" :: "find" :: "reach" :: "many" :: "match" :: "here" :: "put" :: "take" :: "size" :: "at" :: "place" :: "say" :: "is" :: "isnt" :: "list" :: "mod" :: []
theorem words_eq : c_WORDS = .tup (wordsL.map W.str) := rfl
theorem scVs_strs : ∀ xs : List Str, scVs (xs.map W.str) = some (xs.map V.str)
  | [] => rfl
  | x :: xs => by simp [scVs, scV, scVs_strs xs]
theorem inV_strs {x : Str} : ∀ xs : List Str, inV (.str x) (xs.map V.str) = decide (x ∈ xs)
  | [] => rfl
  | y :: ys => by
    have ih := inV_strs (x := x) ys
    unfold inV at ih ⊢
    rw [List.map_cons, List.any_cons, ih]
    by_cases h : x = y
    · subst h; simp [eqV]
    · have h2 : ¬ y = x := fun e => h e.symm
      simp [eqV, h, h2]
theorem in_strs {G : GD} {x : Str} {xs : List Str} : inW G (.str x) (.tup (xs.map W.str)) S = some (.bl (decide (x ∈ xs)), S) := by simp [inW, inB, scVs_strs, scV, inV_strs]
theorem in_strsL {G : GD} {x : Str} {xs : List Str} : inW G (.str x) (.lst (xs.map W.str)) S = some (.bl (decide (x ∈ xs)), S) := by simp [inW, inB, scVs_strs, scV, inV_strs]
theorem notIn_strs {G : GD} {x : Str} {xs : List Str} : notInW G (.str x) (.tup (xs.map W.str)) S = some (.bl (!decide (x ∈ xs)), S) := by simp [notInW, inB, scVs_strs, scV, inV_strs]
theorem notIn_strsL {G : GD} {x : Str} {xs : List Str} : notInW G (.str x) (.lst (xs.map W.str)) S = some (.bl (!decide (x ∈ xs)), S) := by simp [notInW, inB, scVs_strs, scV, inV_strs]
def letterB (c : Nat) : Bool := decide (97 ≤ c) && decide (c ≤ 122)
def nameB : W → Bool
  | .str x => (decide (1 ≤ x.length) && decide (x.length ≤ 8)) && (x.cps.toList.all letterB && !decide (x ∈ wordsL))
  | _ => false
theorem is_name_eq (hS : Clo S) {w : W} (hd : dtW w = true) : F (n + 1) .f_is_name [w] S = .ok (.bl (nameB w)) S := by
  cases w with
  | str x =>
    have hx : x.length ≤ 16777216 := by simp [dtW] at hd; omega
    simp [F_is_name, b_is_name, hS, hx]
    by_cases h : x.length < 1 ∨ 8 < x.length
    · rw [if_pos (by omega)]
      simp [nameB]
      omega
    · rw [if_neg (by omega)]
      refine fin_chr letterB (.bl false) rfl (fun c hc => ?_) (by simpa using hx) (by simp) (fun h2 y => ?_) (fun h2 => ?_)
      · simp [letterB]
        by_cases h1 : 97 ≤ c ∧ c ≤ 122
        · rw [if_neg (by omega), if_pos h1]
        · rw [if_pos (by omega), if_neg h1]
      · simp only [words_eq]
        simp [notIn_strs, hS, nameB, h2]
        omega
      · simp [hS, nameB, h2]
  | _ => first | (cases hd; done) | simp [F_is_name, b_is_name, hS, nameB]
def signB (c : Nat) : Bool := ((decide (32 ≤ c) && decide (c ≤ 126)) && !decide (c = 37)) && !decide (c = 39)
theorem is_character_eq (hS : Clo S) {c : Nat} : F (n + 1) .f_is_character [chrW c] S = .ok (.bl (signB c)) S := by
  simp [F_is_character, b_is_character, hS, signB]
  rw [Bool.eq_iff_iff]
  simp
  omega
def writtenB : W → Bool
  | .str x => decide (x.length ≤ 20) && x.cps.toList.all signB
  | _ => false
theorem is_written_eq (hS : Clo S) {w : W} (hd : dtW w = true) : F (n + 2) .f_is_written [w] S = .ok (.bl (writtenB w)) S := by
  cases w with
  | str x =>
    have hx : x.length ≤ 16777216 := by simp [dtW] at hd; omega
    have hc : ∀ c, F (n + 1) .f_is_character [chrW c] S = .ok (.bl (signB c)) S := fun c => is_character_eq hS
    simp [F_is_written, b_is_written, hS, hx]
    by_cases h : 20 < x.length
    · rw [if_pos (by omega)]
      simp [writtenB]
      omega
    · rw [if_neg (by omega)]
      refine fin_chr signB (.bl false) rfl (fun c hc' => ?_) (by simpa using hx) (by simp) (fun h2 y => ?_) (fun h2 => ?_)
      · simp only [sIf_ap, tNot_ap, tE_ap, eCall_ap, evs_cons, evs_nil, eVar_ap]
        simp [hc c]
        cases signB c <;> simp
      · simp [hS, writtenB, h2]
        omega
      · simp [hS, writtenB, h2]
  | _ => first | (cases hd; done) | simp [F_is_written, b_is_written, hS, writtenB]
def wordB (xs : List Str) : W → Bool
  | .str x => decide (x ∈ xs)
  | _ => false
theorem is_word_eq (hS : Clo S) {w : W} (hd : dtW w = true) {xs : List Str} : F (n + 1) .f_is_word [w, .tup (xs.map W.str)] S = .ok (.bl (wordB xs w)) S := by
  cases w <;> first | (cases hd; done) | simp [F_is_word, b_is_word, hS, wordB, in_strs]
def opsL : List Str := "+" :: "-" :: "*" :: "/" :: "mod" :: "." :: []
def testsL : List Str := "<" :: "<=" :: "=" :: "<>" :: "is" :: "isnt" :: []
theorem ops_eq : c_OPERATORS = .tup (opsL.map W.str) := rfl
theorem tests_eq : c_TESTS = .tup (testsL.map W.str) := rfl
def plainB (c : Nat) (w : W) : Bool := if c = 110 then intB (-999) 999 w else if c = 109 then intB 0 20 w else if c = 116 then writtenB w else if c = 120 then nameB w else if c = 111 then wordB opsL w else wordB testsL w
theorem is_plain_eq (hS : Clo S) {w : W} (hd : dtW w = true) {c : Nat} : F (n + 3) .f_is_plain [chrW c, w] S = .ok (.bl (plainB c w)) S := by
  have h1 := fun lo hi => is_integer_eq (n := n + 1) hS hd (lo := lo) (hi := hi)
  have h2 := is_written_eq (n := n) hS hd
  have h3 := is_name_eq (n := n + 1) hS hd
  have h4 := is_word_eq (n := n + 1) hS hd (xs := opsL)
  have h5 := is_word_eq (n := n + 1) hS hd (xs := testsL)
  simp only [← ops_eq] at h4
  simp only [← tests_eq] at h5
  simp [F_is_plain, b_is_plain, hS, h1, h2, h3, h4, h5]
  unfold plainB
  split
  · simp [hS]
  · split
    · simp [hS]
    · split
      · simp [hS]
      · split
        · simp [hS]
        · split <;> simp [hS]
/-! ### expressions -/
def shapes : List (Str × Str) := ("nothing", "") :: ("number", "n") :: ("text", "t") :: ("name", "x") :: ("list", "l") :: ("op", "oee") :: ("test", "cee") :: ("or", "ee") :: ("and", "ee") :: ("first", "e") :: ("no", "e") :: ("if", "eee") :: ("most", "me") :: ("again", "e") :: ("to", "ee") :: ("items", "e") :: ("give", "xe") :: ("lend", "xe") :: ("every", "ee") :: ("while", "ee") :: ("do", "d") :: ("call", "ea") :: ("back", "e") :: ("out", "e") :: ("fall", "") :: ("keep", "e") :: ("ask", "e") :: ("anew", "e") :: ("scan", "ee") :: ("move", "e") :: ("tab", "e") :: ("find", "e") :: ("reach", "e") :: ("many", "e") :: ("match", "e") :: ("here", "") :: ("put", "ee") :: ("take", "e") :: ("size", "e") :: ("at", "ee") :: ("place", "eee") :: ("say", "e") :: []
theorem kv_eq : kv_SHAPES = shapes.map fun p => (p.1, .str p.2) := rfl
def shapeOf (k : Str) : Option Str := shapes.lookup k
theorem look_map {k : Str} : ∀ l : List (Str × Str), (l.map fun p => (p.1, W.str p.2)).lookup k = (l.lookup k).map W.str
  | [] => rfl
  | (a, b) :: l => by
    simp only [List.map_cons, List.lookup_cons]
    cases k == a with
    | true => rfl
    | false => exact look_map l
theorem gd_SHAPES : gdT "SHAPES" = some kv_SHAPES := by
  unfold gdT
  rw [if_neg (by decide +kernel), if_pos rfl]
theorem in_SHAPES {k : Str} : inW gdT (.str k) (.glo "SHAPES") S = some (.bl (shapeOf k).isSome, S) := by
  simp only [inW, inB, gd_SHAPES, kv_eq, look_map]
  unfold shapeOf
  cases shapes.lookup k <;> rfl
theorem notIn_SHAPES {k : Str} : notInW gdT (.str k) (.glo "SHAPES") S = some (.bl (!(shapeOf k).isSome), S) := by
  simp only [notInW, inB, gd_SHAPES, kv_eq, look_map]
  unfold shapeOf
  cases shapes.lookup k <;> rfl
theorem get_SHAPES {k : Str} : getW gdT (.glo "SHAPES") (.str k) S = (shapeOf k).map fun z => (.str z, S) := by
  simp only [getW, gd_SHAPES, kv_eq, look_map]
  unfold shapeOf
  cases shapes.lookup k <;> rfl
theorem shape_len {k sh : Str} (h : shapeOf k = some sh) : sh.length ≤ 3 ∧ sh.cps.toList.all (fun c => decide (c ∈ [101, 110, 116, 120, 111, 99, 109, 108, 100, 97])) = true := by
  have hm : (k, sh) ∈ shapes := by
    have : ∀ l : List (Str × Str), l.lookup k = some sh → (k, sh) ∈ l := by
      intro l
      induction l with
      | nil => intro h; cases h
      | cons p l ih =>
        intro h
        obtain ⟨a, b⟩ := p
        simp only [List.lookup_cons] at h
        cases e : k == a with
        | true =>
          rw [e] at h
          cases h
          rw [eq_of_beq e]; exact List.mem_cons_self
        | false => rw [e] at h; exact List.mem_cons_of_mem _ (ih h)
    exact this _ h
  have key : shapes.all (fun p => decide (p.2.length ≤ 3) && p.2.cps.toList.all (fun c => decide (c ∈ [101, 110, 116, 120, 111, 99, 109, 108, 100, 97]))) = true := by decide +kernel
  have := List.all_eq_true.mp key _ hm
  simpa [Bool.and_eq_true] using this
def leavingL : List Str := "back" :: "out" :: "fall" :: []
theorem leaving_eq : c_LEAVING = .tup (leavingL.map W.str) := rfl
def rowB (f : W → Bool) (c : Nat) (w : W) : Bool := match rowW w with
  | some ps => ((decide ((if c = 100 then 1 else 0) ≤ ps.length)) && decide (ps.length ≤ if c = 100 then 6 else if c = 97 then 3 else 4)) && ps.all f
  | none => false
def itemB (f : W → Bool) (c : Nat) (w : W) : Bool := if c = 101 then f w else if c = 108 ∨ c = 100 ∨ c = 97 then rowB f c w else plainB c w
/-- is it an expression, in this room, kept? -/
def isW : Nat → Bool → W → Bool
  | 0, _, _ => false
  | r + 1, kept, w => match rowW w with
    | some (.str k :: its) => match shapeOf k with
      | some sh => (!(kept && decide (k ∈ leavingL)) && decide (its.length = sh.length)) && (sh.cps.toList.zip its).all fun p => itemB (isW r (kept || decide (k = "keep"))) p.1 p.2
      | none => false
    | _ => false
theorem row_dt {w : W} {ps : List W} (hd : dtW w = true) (h : rowW w = some ps) : ps.length ≤ 1000 ∧ ∀ p ∈ ps, dtW p = true := by
  cases w with
  | tup ws => cases h; simp only [dtW, Bool.and_eq_true, decide_eq_true_eq] at hd; exact ⟨hd.1, dtWs_all.mp hd.2⟩
  | lst ws => cases h; simp only [dtW, Bool.and_eq_true, decide_eq_true_eq] at hd; exact ⟨hd.1, dtWs_all.mp hd.2⟩
  | _ => cases h
theorem row_len {w : W} {ps : List W} (h : rowW w = some ps) : lenN [w] S = some (.int ps.length, S) := by
  cases w with
  | tup ws => cases h; rfl
  | lst ws => cases h; rfl
  | _ => cases h
theorem row_get {w : W} {ps : List W} {i : Nat} {G : GD} (h : rowW w = some ps) : getW G w (.int i) S = ps[i]?.map fun w => (w, S) := by
  cases w with
  | tup ws => cases h; simp
  | lst ws => cases h; simp
  | _ => cases h
theorem row_iter {w : W} {ps : List W} (h : rowW w = some ps) : iterW w S = some (itT ps) := by
  cases w with
  | tup ws => cases h; rfl
  | lst ws => cases h; rfl
  | _ => cases h
/-- a row of parts -/
theorem row_of_parts_eq (hS : Clo S) {f : W → Bool} {w : W} (hd : dtW w = true) {c : Nat} {room : Int} {kept : Bool} (hc : c = 108 ∨ c = 100 ∨ c = 97)
    (hf : ∀ w, dtW w = true → F (n + 1) .f_is_within [w, .int room, .bl kept] S = .ok (.bl (f w)) S) : F (n + 2) .f_is_row_of_parts [chrW c, w, .int room, .bl kept] S = .ok (.bl (rowB f c w)) S := by
  have h1 := is_row_eq (n := n) hS hd
  cases hr : rowW w with
  | none =>
    rw [hr] at h1
    simp [F_is_row_of_parts, b_is_row_of_parts, hS, h1, rowB, hr]
  | some ps =>
    rw [hr] at h1
    obtain ⟨hl, hp⟩ := row_dt hd hr
    have h2 := row_len (S := S) hr
    have h3 := row_iter (S := S) hr
    have hb : ∀ (e : En) (x : W), x ∈ ps → True := fun _ _ _ => trivial
    have fin : ∀ lo hi : W, RS.fin S ((sFor (iE (eVar 1)) (gVar 6) (sIf (tNot (tE (eCall (F (n + 1) Fn.f_is_within) [eVar 6, eVar 2, eVar 3]))) (sRet (eC (W.bl false))) sNil) [some (chrW c), some w, some (W.int room), some (W.bl kept), some lo, some hi, none] S).seq (sRet (eC (W.bl true)))) = R.ok (W.bl (ps.all f)) S := fun lo hi => by
      refine fin_all f (.bl false) (ws := ps) (by simp [iE, h3]) (fun x hx => ?_) (by simp; omega) (by simp) (fun ha y => ?_) (fun ha => ?_)
      · simp [hf x (hp x hx)]
        cases f x <;> simp
      · simp [hS, ha]
      · simp [hS, ha]
    simp [F_is_row_of_parts, b_is_row_of_parts, hS, h1, h2, rowB, hr, fin]
    rcases hc with rfl | rfl | rfl
    · simp
      congr 1
      rw [Bool.eq_iff_iff]
      simp
      omega
    · simp
      congr 1
      rw [Bool.eq_iff_iff]
      simp
      omega
    · simp
      congr 1
      rw [Bool.eq_iff_iff]
      simp
      omega
theorem b_within_eq (hS : Clo S) {C : Fn → Cal} {r : Nat} {w : W} {kept : Bool} (hd : dtW w = true)
    (c1 : ∀ w, dtW w = true → C .f_is_row [w] S = .ok (.bl (rowW w).isSome) S)
    (c2 : ∀ c w, dtW w = true → C .f_is_plain [chrW c, w] S = .ok (.bl (plainB c w)) S)
    (c3 : ∀ w b, dtW w = true → C .f_is_within [w, .int r, .bl b] S = .ok (.bl (isW r b w)) S)
    (c4 : ∀ c w b, dtW w = true → c = 108 ∨ c = 100 ∨ c = 97 → C .f_is_row_of_parts [chrW c, w, .int r, .bl b] S = .ok (.bl (rowB (isW r b) c w)) S) :
    runDef 3 10 (b_is_within C) [w, .int (r + 1 : Nat), .bl kept] S = .ok (.bl (isW (r + 1) kept w)) S := by
  have h1 := c1 w hd
  cases hr : rowW w with
  | none =>
    rw [hr] at h1
    simp [b_is_within, hS, isW, h1, hr]
  | some ps =>
    rw [hr] at h1
    obtain ⟨hl, hp⟩ := row_dt hd hr
    have h2 := fun S => row_len (S := S) hr
    have h3 := fun (i : Nat) => row_get (S := S) (i := i) (G := gdT) hr
    have h3s : ∀ i : Nat, getW gdT w (.int ((i : Int) + 1)) S = ps[i + 1]?.map fun w => (w, S) := fun i => h3 (i + 1)
    have h30 := h3 0
    simp at h30
    cases ps with
    | nil => simp [b_is_within, hS, isW, h1, h2, hr]
    | cons kk its =>
      have hk := hp kk List.mem_cons_self
      cases kk with
      | str k =>
        simp at h30
        simp only [List.getElem?_cons_succ] at h3s
        simp [b_is_within, hS, isW, h1, h2, h30, hr, notIn_SHAPES, get_SHAPES, leaving_eq, in_strs]
        rw [if_neg (by omega)]
        cases hsh : shapeOf k with
        | none => simp
        | some sh =>
          obtain ⟨hs3, hsl⟩ := shape_len hsh
          by_cases hkl : kept = true ∧ k ∈ leavingL
          · simp [hkl]
          · rw [if_neg (by simp [hkl])]
            have hkl2 : (kept && decide (k ∈ leavingL)) = false := by
              cases kept <;> simp_all
            simp [hkl2]
            have hsz : sh.length ≤ 16777216 := by omega
            simp [hsz, h2]
            by_cases hlen : its.length = sh.length
            · rw [if_pos (by omega)]
              have hz : (!kept || !decide (k ∈ leavingL)) = true := by
                cases kept <;> simp_all
              simp only [hz, hlen, decide_true, Bool.true_and]
              generalize (kept || decide (k = ({ cps := #[107, 101, 101, 112] } : Str))) = b
              have hzl : (sh.cps.toList.zip its).length = sh.length := by
                rw [List.length_zip, hlen]; exact Nat.min_self _
              refine fin_inv (fun i e S' => S' = S ∧ i ≤ sh.length ∧ (∃ x6 x7 x8 x9, e = [some w, some (.int (r + 1)), some (.bl kept), some (.str k), some (.str sh), some (.bl b), x6, x7, x8, x9]) ∧ ((sh.cps.toList.zip its).take i).all (fun p => itemB (isW r b) p.1 p.2) = true) sh.length (by have := fuel_ge; omega)
                (J := itR 0 sh.length) (iRange1_ok (by simp [hsz]) hsz) ⟨rfl, Nat.zero_le _, ⟨_, _, _, _, rfl⟩, by simp⟩ (fun i e S h => h.2.1) ?_
              rintro i e S' ⟨rfl, hi, ⟨x6, x7, x8, x9, rfl⟩, hall⟩
              by_cases hil : i < sh.length
              · refine .inr ⟨.int i, _, _, by simp [itR, hil], rfl, ?_⟩
                obtain ⟨c, hc⟩ : ∃ c, sh.cps.toList[i]? = some c := ⟨_, List.getElem?_eq_getElem (by rw [len_cps]; exact hil)⟩
                obtain ⟨x, hx⟩ : ∃ x, its[i]? = some x := ⟨_, List.getElem?_eq_getElem (by rw [hlen]; exact hil)⟩
                have hxd : dtW x = true := hp x (List.mem_cons_of_mem _ (List.mem_of_getElem? hx))
                have hzi : (sh.cps.toList.zip its)[i]? = some (c, x) := by
                  rw [List.getElem?_zip_eq_some]; exact ⟨hc, hx⟩
                have hnext : ((sh.cps.toList.zip its).take (i + 1)).all (fun p => itemB (isW r b) p.1 p.2) = itemB (isW r b) c x := by
                  rw [List.take_add_one, hzi]; simp [hall]
                have hfin : itemB (isW r b) c x = false → (sh.cps.toList.zip its).all (fun p => itemB (isW r b) p.1 p.2) = false := fun h => by
                  rw [List.all_eq_false]
                  exact ⟨(c, x), List.mem_of_getElem? hzi, by simp [h]⟩
                simp [hsz, hc, hx, h3s]
                by_cases h101 : c = 101
                · have e1 : itemB (isW r b) c x = isW r b x := by simp [itemB, h101]
                  rw [e1] at hnext hfin
                  simp [h101, c3 x b hxd]
                  cases hv : isW r b x with
                  | true => simp; refine ⟨hil, ?_⟩; have h9 := hnext.trans hv; simpa using h9
                  | false => simp [hS, hfin hv]
                · by_cases hrow : c = 108 ∨ c = 100 ∨ c = 97
                  · have e1 : itemB (isW r b) c x = rowB (isW r b) c x := by
                      unfold itemB; rw [if_neg h101, if_pos hrow]
                    rw [e1] at hnext hfin
                    simp only [if_neg h101, if_pos hrow, c4 c x b hxd hrow]
                    cases hv : rowB (isW r b) c x with
                    | true => simp; refine ⟨hil, ?_⟩; have h9 := hnext.trans hv; simpa using h9
                    | false => simp [hS, hfin hv]
                  · have e1 : itemB (isW r b) c x = plainB c x := by
                      unfold itemB; rw [if_neg h101, if_neg hrow]
                    rw [e1] at hnext hfin
                    simp only [if_neg h101, if_neg hrow, c2 c x hxd]
                    cases hv : plainB c x with
                    | true => simp; refine ⟨hil, ?_⟩; have h9 := hnext.trans hv; simpa using h9
                    | false => simp [hS, hfin hv]
              · have hie : i = sh.length := by omega
                refine .inl ⟨by simp [itR, hil], ?_⟩
                rw [hie, ← hzl, List.take_length] at hall
                simp [hS, hall]
            · rw [if_neg (by omega)]
              simp [hlen, hS]
      | _ => first | (cases hk; done) | (simp at h30; simp [b_is_within, hS, isW, h1, h2, h30, hr])
theorem is_within_eq (hS : Clo S) : ∀ (r n : Nat) (w : W) (kept : Bool), 2 * r + 5 ≤ n → dtW w = true → F n .f_is_within [w, .int r, .bl kept] S = .ok (.bl (isW r kept w)) S
  | 0, n, w, kept, hn, hd => by
    obtain ⟨n, rfl⟩ : ∃ m, n = m + 1 := ⟨n - 1, by omega⟩
    rw [F_is_within]
    simp [b_is_within, hS, isW]
  | r + 1, n, w, kept, hn, hd => by
    obtain ⟨n, rfl⟩ : ∃ m, n = m + 5 := ⟨n - 5, by omega⟩
    rw [F_is_within]
    exact b_within_eq hS hd (fun w hd => is_row_eq hS hd) (fun c w hd => is_plain_eq (n := n + 1) hS hd) (fun w b hd => is_within_eq hS r (n + 4) w b (by omega) hd)
      (fun c w b hd hc => row_of_parts_eq (n := n + 2) hS hd hc fun w hd => is_within_eq hS r (n + 3) w b (by omega) hd)
theorem is_expression_eq (hS : Clo S) {w : W} (hd : dtW w = true) : F (n + 22) .f_is_expression [w] S = .ok (.bl (isW 8 false w)) S := by
  have c1 := is_within_eq hS 8 (n + 21) w false (by omega) hd
  rw [F_is_expression]
  simp at c1
  simp [b_is_expression, c1, hS]
end Sh

set_option Elab.async false
set_option linter.all false
set_option maxRecDepth 100000
set_option maxHeartbeats 4000000
namespace Sh
open PySem L2
variable {n : Nat} {S J : Store}
@[simp] theorem flat_nil : flat [] = [] := rfl
@[simp] theorem flat_cons {a b : EM} {r : List (EM × EM)} : flat ((a, b) :: r) = a :: b :: flat r := rfl
theorem shape_mem {k sh : Str} (h : shapeOf k = some sh) : (k, sh) ∈ shapes := by
  have : ∀ l : List (Str × Str), l.lookup k = some sh → (k, sh) ∈ l := by
    intro l
    induction l with
    | nil => intro h; cases h
    | cons p l ih =>
      intro h
      obtain ⟨a, b⟩ := p
      simp only [List.lookup_cons] at h
      cases e : k == a with
      | true =>
        rw [e] at h
        cases h
        rw [eq_of_beq e]; exact List.mem_cons_self
      | false => rw [e] at h; exact List.mem_cons_of_mem _ (ih h)
  exact this _ h
theorem low_strs {n : Nat} {xs : List Str} : lowWs n (xs.map W.str) = true := lowWs_all.mpr fun q hq => by
  obtain ⟨z, _, rfl⟩ := List.mem_map.mp hq
  rfl
theorem name_len {s : Str} (h : nameB (.str s) = true) : s.length ≤ 8 := by
  simp only [nameB, Bool.and_eq_true, decide_eq_true_eq] at h
  exact h.1.2
theorem wri_len {s : Str} (h : writtenB (.str s) = true) : s.length ≤ 20 := by
  simp only [writtenB, Bool.and_eq_true, decide_eq_true_eq] at h
  exact h.1
/-! ### the law's shapes -/
theorem low_keep {n : Nat} {kvs : List (Key × W)} {k : Key} {w : W} (h : lowWs n (kvs.map (·.2)) = true) (hw : lowW n w = true) : lowWs n ((putW kvs k w).map (·.2)) = true := by
  rw [lowWs_all] at h ⊢
  intro q hq
  unfold putW at hq
  split at hq
  · rw [List.map_map] at hq
    obtain ⟨kv, hkv, rfl⟩ := List.mem_map.mp hq
    simp only [Function.comp]
    split
    · exact hw
    · exact h _ (List.mem_map_of_mem hkv)
  · rw [List.map_append] at hq
    rcases List.mem_append.mp hq with hq | hq
    · exact h _ hq
    · simp at hq; rw [hq]; exact hw
theorem put_len {kvs : List (Key × W)} {k : Key} {w : W} : (putW kvs k w).length ≤ kvs.length + 1 := by
  unfold putW
  split <;> simp
def putsW (kvs : List (Key × W)) (v : Str) (ks : List Str) : List (Key × W) := ks.foldl (fun kvs k => putW kvs (.inr k) (.str v)) kvs
theorem puts_len {v : Str} : ∀ {ks : List Str} {kvs : List (Key × W)}, (putsW kvs v ks).length ≤ kvs.length + ks.length
  | [], kvs => Nat.le_refl _
  | k :: ks, kvs => by
    have h1 := puts_len (v := v) (ks := ks) (kvs := putW kvs (.inr k) (.str v))
    have h2 := put_len (kvs := kvs) (k := .inr k) (w := .str v)
    simp only [putsW, List.foldl_cons, List.length_cons] at h1 ⊢
    omega
/-- for k in [..]: d[k] = v -/
theorem puts_loop {it : IM} {v : Str} {kvs : List (Key × W)} {ks : List Str} {x1 x2 x3 : Option W} (hl : kvs.length + ks.length ≤ 1000)
    (hi : it [some (.ref S.length), x1, x2, x3] (S ++ .dic kvs :: J) = .ok (itT (ks.map W.str)) (S ++ .dic kvs :: J)) :
    ∃ y, sFor it (gVar 1) (sSetIx setW (eVar 0) (eVar 1) (eC (.str v))) [some (.ref S.length), x1, x2, x3] (S ++ .dic kvs :: J) = .nx [some (.ref S.length), y, x2, x3] (S ++ .dic (putsW kvs v ks) :: J) := by
  refine sFor_inv (J := itT (ks.map W.str)) (I := fun j e S' => j ≤ ks.length ∧ S' = S ++ .dic (putsW kvs v (ks.take j)) :: J ∧ ∃ y, e = [some (.ref S.length), y, x2, x3]) (P := fun r => ∃ y, r = .nx [some (.ref S.length), y, x2, x3] (S ++ .dic (putsW kvs v ks) :: J)) ks.length (by have := fuel_ge; omega) hi ⟨Nat.zero_le _, by simp [putsW], x1, rfl⟩ (fun i e S h => h.1) ?_
  rintro j e S' ⟨hj, rfl, y, rfl⟩
  by_cases hjl : j < ks.length
  · obtain ⟨q, hq⟩ : ∃ q, ks[j]? = some q := ⟨_, List.getElem?_eq_getElem hjl⟩
    have hlen := puts_len (v := v) (ks := ks.take j) (kvs := kvs)
    rw [List.length_take] at hlen
    have hnext : putsW kvs v (ks.take (j + 1)) = putW (putsW kvs v (ks.take j)) (.inr q) (.str v) := by
      rw [List.take_add_one, hq]; simp [putsW]
    refine .inr ⟨.str q, _, _, by simp [itT, hq], rfl, ?_⟩
    have hset : setW (.ref S.length) (.str q) (.str v) (S ++ .dic (putsW kvs v (ks.take j)) :: J) = some (S ++ .dic (putW (putsW kvs v (ks.take j)) (.inr q) (.str v)) :: J) := by
      simp only [setW, top_get, keyW]
      rw [if_pos (by simp only [szl]; omega), top_set]
    simp [hset, hnext]
    omega
  · have hje : j = ks.length := by omega
    refine .inl ⟨by simp [itT, hje], y, ?_⟩
    rw [hje, List.take_length]
theorem fzD_dic {n d a : Nat} {S : Store} {kvs : List (Key × W)} (ha : ¬ a < n) (e : S[a]? = some (.dic kvs)) (hw : lowWs n (kvs.map (·.2)) = true) : fzD n S (d + 1) (.ref a) = some (.dic (kvs.map (·.1)) (kvs.map (·.2))) := by
  simp only [fzD, mapR]
  rw [if_neg ha, e]
  dsimp only
  rw [fzL_low hw]
  rfl
theorem cut_dic {kvs : List (Key × W)} (hS : Clo S) (hw : lowWs S.length (kvs.map (·.2)) = true) : cutR S (.ref S.length) (S ++ .dic kvs :: J) = .ok (.dic (kvs.map (·.1)) (kvs.map (·.2))) S := by
  unfold cutR
  rw [fzD_dic (Nat.lt_irrefl _) top_get hw]
  simp only [okS_app, hS, if_true, List.take_left]
def kvOf (l : List (Str × Str)) : List (Key × W) := l.map fun p => (.inr p.1, .str p.2)
def kv0 : List (Key × W) := kvOf (("nothing", "") :: ("number", "n") :: ("text", "t") :: ("name", "x") :: ("list", "l") :: ("op", "oee") :: ("test", "cee") :: ("fall", "") :: [])
def kvM : List (Key × W) := kvOf (("if", "eee") :: ("place", "eee") :: ("most", "me") :: ("give", "xe") :: ("lend", "xe") :: ("do", "d") :: ("call", "ea") :: ("here", "") :: [])
def ks1 : List Str := "or" :: "and" :: "to" :: "every" :: "while" :: "scan" :: "put" :: "at" :: []
def ks2 : List Str := "first" :: "no" :: "again" :: "items" :: "back" :: "out" :: "keep" :: "ask" :: "anew" :: "move" :: "tab" :: "find" :: "reach" :: "many" :: []
def ks3 : List Str := "match" :: "take" :: "size" :: "say" :: []
def kvS : List (Key × W) := mergeW (putsW (putsW kv0 "ee" ks1) "e" (ks2 ++ ks3)) kvM
def SHD : W := .dic (kvS.map (·.1)) (kvS.map (·.2))
def strsB : List W → Bool
  | [] => true
  | .str _ :: r => strsB r
  | _ => false
theorem strsB_low {n : Nat} : ∀ {ws : List W}, strsB ws = true → lowWs n ws = true
  | [], _ => rfl
  | .str x :: r, h => by simp only [lowWs, lowW, Bool.true_and]; exact strsB_low h
theorem kvS_low {n : Nat} : lowWs n (kvS.map (·.2)) = true := strsB_low (by decide +kernel)
theorem kv0_merge : mergeW [] kv0 = kv0 := by kernel_rfl
theorem kvM_merge : mergeW [] kvM = kvM := by kernel_rfl
theorem zip_kv (kvs : List (Key × W)) : (kvs.map (·.1)).zip (kvs.map (·.2)) = kvs := by
  induction kvs with
  | nil => rfl
  | cons p kvs ih => simp only [List.map_cons, List.zip_cons_cons, ih]
theorem SHD_low {n : Nat} : lowW n SHD = true := kvS_low
theorem shapes_eq (hS : Clo S) : F (n + 1) .f__law_shapes [] S = .ok SHD S := by
  obtain ⟨y1, h1⟩ := puts_loop (S := S) (J := []) (v := "ee") (kvs := kv0) (ks := ks1) (x1 := none) (x2 := none) (x3 := none) (it := iE (eN (lstN false) [(eC (.str ("or" : Str))), (eC (.str ("and" : Str))), (eC (.str ("to" : Str))), (eC (.str ("every" : Str))), (eC (.str ("while" : Str))), (eC (.str ("scan" : Str))), (eC (.str ("put" : Str))), (eC (.str ("at" : Str)))])) (by decide +kernel) rfl
  have hdic : ∀ S : Store, dicN true [.str "nothing", .str "", .str "number", .str "n", .str "text", .str "t", .str "name", .str "x", .str "list", .str "l", .str "op", .str "oee", .str "test", .str "cee", .str "fall", .str ""] S = some (.ref S.length, S ++ [.dic kv0]) := fun S => by
    rw [← kv0_merge]; rfl
  rw [F__law_shapes]
  simp only [b__law_shapes, run0, sSeq_ap, sSet_ap, eN_ap, startE0, flat_nil, flat_cons, evs_cons, evs_nil, eC_ap, R.bind_ok, hdic, lift_some, R.thn_ok, List.replicate, List.set_cons_zero, RS.seq_nx]
  rw [h1]
  simp only [RS.seq_nx, sSeq_ap, sSet_ap, eN_ap, evs_cons, evs_nil, eC_ap, R.bind_ok, lstN_ap, List.length_cons, List.length_nil]
  rw [if_pos (by decide +kernel)]
  simp only [lift_some, mkL_f, R.thn_ok, List.set_cons_zero, List.set_cons_succ, RS.seq_nx]
  obtain ⟨y2, h2⟩ := puts_loop (S := S) (J := []) (v := "e") (kvs := putsW kv0 "ee" ks1) (ks := ks2 ++ ks3) (x1 := y1) (x2 := some (.lst (ks2.map W.str))) (x3 := none) (it := iE (e2 (addW false) (eVar 2) (eN (lstN false) [(eC (.str ("match" : Str))), (eC (.str ("take" : Str))), (eC (.str ("size" : Str))), (eC (.str ("say" : Str)))]))) (by decide +kernel) rfl
  have e2 : ([W.str "first", .str "no", .str "again", .str "items", .str "back", .str "out", .str "keep", .str "ask", .str "anew", .str "move", .str "tab", .str "find", .str "reach", .str "many"] : List W) = ks2.map W.str := rfl
  rw [e2, sSeq_ap, h2]
  have hd3 : ∀ S : Store, dicN false [.str "if", .str "eee", .str "place", .str "eee", .str "most", .str "me", .str "give", .str "xe", .str "lend", .str "xe", .str "do", .str "d", .str "call", .str "ea", .str "here", .str ""] S = some (.dic (kvM.map (·.1)) (kvM.map (·.2)), S) := fun S => by
    rw [← kvM_merge]; rfl
  simp only [RS.seq_nx, sSeq_ap, sSet_ap, eN_ap, evs_cons, evs_nil, eC_ap, R.bind_ok, hd3, lift_some, R.thn_ok, List.set_cons_zero, List.set_cons_succ, sExpr_ap, eMeth_ap, eVar_ap, List.getElem?_cons_zero, List.getElem?_cons_succ, sRet_ap]
  have hty : tyM "dict" (.ref S.length) (S ++ [Ob.dic (putsW (putsW kv0 "ee" ks1) "e" (ks2 ++ ks3))]) = true := by
    simp only [tyM, top_get]; decide +kernel
  have hup : updateM (.ref S.length) [.dic (kvM.map (·.1)) (kvM.map (·.2))] (S ++ [Ob.dic (putsW (putsW kv0 "ee" ks1) "e" (ks2 ++ ks3))]) = some (.non, S ++ [Ob.dic kvS]) := by
    simp only [updateM, top_get, dcW_dic, zip_kv]
    rw [if_pos ⟨rfl, by decide +kernel⟩, top_set]
    rfl
  rw [hty, if_pos rfl, hup]
  simp only [lift_some, R.thn_ok, RS.seq_nx, List.getElem?_cons_zero, fin_ret]
  exact cut_dic (J := []) hS kvS_low
theorem strK (k : Str) : keyW (.str k) = some (.inr k) := rfl
def valB (kvs : List (Key × W)) (p : Str × Str) : Bool := match valW kvs (.inr p.1) with
  | some (.str z) => decide (z = p.2)
  | _ => false
theorem kvS_val : ∀ p ∈ shapes, valB kvS p = true := by decide +kernel
theorem valW_shape {k sh : Str} (h : shapeOf k = some sh) : valW kvS (.inr k) = some (.str sh) := by
  have := kvS_val (k, sh) (shape_mem h)
  unfold valB at this
  split at this
  · rename_i z hz
    rw [hz]
    rw [of_decide_eq_true this]
  · cases this
theorem get_dic {ks : List Key} {ws : List W} {k : Str} : getW gdT (.dic ks ws) (.str k) S = (valW (ks.zip ws) (.inr k)).map fun w => (w, S) := rfl
theorem notIn_dic {ks : List Key} {ws : List W} {k : Str} : notInW gdT (.str k) (.dic ks ws) S = some (.bl (!(valW (ks.zip ws) (.inr k)).isSome), S) := rfl
theorem len_dic {ks : List Key} {ws : List W} : lenN [.dic ks ws] S = some (.int (ks.zip ws).length, S) := rfl
theorem list_dic {ks : List Key} {ws : List W} : listN false [.dic ks ws] S = some (.lst ((ks.zip ws).map fun kv => kW kv.1), S) := rfl
theorem get_SHD {k sh : Str} (h : shapeOf k = some sh) : getW gdT SHD (.str k) S = some (.str sh, S) := by
  unfold SHD
  rw [get_dic, zip_kv, valW_shape h]; rfl
theorem notIn_SHD {k sh : Str} (h : shapeOf k = some sh) : notInW gdT (.str k) SHD S = some (.bl false, S) := by
  unfold SHD
  rw [notIn_dic, zip_kv, valW_shape h]; rfl
def keyB (i : Nat) : Bool := match (kvS.map fun kv => kW kv.1)[i]? with
  | some (.str k) => (shapeOf k).isSome
  | _ => false
theorem keys_ok : ∀ i < 42, keyB i = true := by decide +kernel
theorem key_at {i : Nat} (h : i < 42) : ∃ k sh, (kvS.map fun kv => kW kv.1)[i]? = some (.str k) ∧ shapeOf k = some sh := by
  have := keys_ok i h
  unfold keyB at this
  split at this
  · rename_i k hk
    obtain ⟨sh, hs⟩ := Option.isSome_iff_exists.mp this
    exact ⟨k, sh, hk, hs⟩
  · cases this
theorem len_SHD : lenN [SHD] S = some (.int 42, S) := by
  have hl : kvS.length = 42 := by decide +kernel
  unfold SHD
  rw [len_dic, zip_kv, hl]; rfl
theorem list_SHD : listN false [SHD] S = some (.lst (kvS.map fun kv => kW kv.1), S) := by
  unfold SHD
  rw [list_dic, zip_kv]
theorem kvS_keys : ∀ p ∈ kvS, (match p.1 with | .inr k => (shapeOf k).isSome | _ => false) = true := by decide +kernel
theorem valW_none {k : Str} (h : shapeOf k = none) : valW kvS (.inr k) = none := by
  unfold valW
  cases e : kvS.find? fun kv => decide (kv.1 = Sum.inr k) with
  | none => rfl
  | some kv =>
    have hm := List.mem_of_find?_eq_some e
    have hk : kv.1 = Sum.inr k := by simpa using List.find?_some e
    have := kvS_keys kv hm
    rw [hk] at this
    simp only [h] at this
    cases this
theorem notIn_SHD2 {k : Str} : notInW gdT (.str k) SHD S = some (.bl (!(shapeOf k).isSome), S) := by
  cases h : shapeOf k with
  | none =>
    unfold SHD
    rw [notIn_dic, zip_kv, valW_none h]; rfl
  | some sh => exact notIn_SHD h
/-! ### names and texts -/
theorem blsW_map {α : Type} {f : α → Bool} : ∀ ws : List α, blsW (ws.map fun w => W.bl (f w)) = some (ws.map f)
  | [] => rfl
  | w :: ws => by simp only [List.map_cons, blsW, blsW_map ws, Option.map_some]
theorem all_bls {α : Type} {f : α → Bool} {ws : List α} : allN [.lst (ws.map fun w => W.bl (f w))] S = some (.bl (ws.all f), S) := by
  have : (ws.map f).all id = ws.all f := by rw [List.all_map]; rfl
  simp [allN, blsW_map, this]
theorem law_is_name_eq (hS : Clo S) {w : W} (hd : dtW w = true) : F (n + 2) .f__law_is_name [w] S = .ok (.bl (nameB w)) S := by
  have hw : F (n + 1) .f__law_words [] S = .ok (.lst (wordsL.map W.str)) S := by
    rw [F__law_words]
    simp [b__law_words]
    exact cut_self hS rfl
  rw [F__law_is_name]
  cases w with
  | str x =>
    have hlx : x.length ≤ 16777216 := by simp [dtW] at hd; omega
    have hin : inW gdT (.str x) (.lst (wordsL.map W.str)) S = some (.bl (decide (x ∈ wordsL)), S) := in_strsL
    have hlc : eLc false (iE (eVar 0)) [1] (gVar 1) tYesM (eAnd (e2 leW (eC (.int 97)) (eN ordN [(eVar 1)])) (e2 leW (eN ordN [(eVar 1)]) (eC (.int 122)))) [some (.str x), none] S = .ok (.lst ((x.cps.toList.map chrW).map fun w => W.bl (chrB letterB w))) S :=
      lc_map (m := false) (f := fun w => W.bl (chrB letterB w)) (iE_ok (w := .str x) (by simp) rfl) (by rw [List.length_map, len_cps]; simp; omega) (fun w hw => by
        obtain ⟨c, hc, rfl⟩ := List.mem_map.mp hw
        simp [wipeE, letterB]
        rw [Bool.eq_iff_iff]
        simp
        omega)
    have hall : allN [.lst ((x.cps.toList.map chrW).map fun w => W.bl (chrB letterB w))] S = some (.bl (x.cps.toList.all letterB), S) := by
      rw [all_bls, all_chr]
    have hb : b__law_is_name (F (n + 1)) = sSeq (sIf (tOr (tNot (tE (eN isiN [(eVar 0), (eC (.ty "str"))]))) (tOr (tB (e2 ltW (eN lenN [(eVar 0)]) (eC (.int 1)))) (tOr (tB (e2 gtW (eN lenN [(eVar 0)]) (eC (.int 8)))) (tB (e2 (inW gdT) (eVar 0) (eCall (F (n + 1) .f__law_words) [])))))) (sRet (eC (.bl false))) sNil)
      (sRet (eN allN [(eLc false (iE (eVar 0)) [1] (gVar 1) tYesM (eAnd (e2 leW (eC (.int 97)) (eN ordN [(eVar 1)])) (e2 leW (eN ordN [(eVar 1)]) (eC (.int 122)))))])) := rfl
    rw [hb]
    generalize hM : (sRet (eN allN [(eLc false (iE (eVar 0)) [1] (gVar 1) tYesM (eAnd (e2 leW (eC (.int 97)) (eN ordN [(eVar 1)])) (e2 leW (eN ordN [(eVar 1)]) (eC (.int 122)))))])) = M
    have hMe : M [some (.str x), none] S = .ret (.bl (x.cps.toList.all letterB)) S := by
      rw [← hM, sRet_ap, eN_ap, evs_cons, hlc, R.bind_ok, evs_nil, R.bind_ok, R.bind_ok, hall]
      rfl
    simp [hw, hin, hlx, hMe]
    by_cases h1 : x.length < 1 ∨ 8 < x.length
    · rw [if_pos (by omega)]
      simp [nameB, hS]
      omega
    · by_cases h2 : x ∈ wordsL
      · simp [h2, nameB, hS]
      · simp [h2]
        rw [if_neg (by omega)]
        simp [nameB, h2, hS]
        omega
  | _ => first | (cases hd; done) | simp [b__law_is_name, hS, nameB]
theorem law_is_text_eq (hS : Clo S) {w : W} (hd : dtW w = true) : F (n + 1) .f__law_is_text [w] S = .ok (.bl (writtenB w)) S := by
  rw [F__law_is_text]
  cases w with
  | str x =>
    have hlx : x.length ≤ 16777216 := by simp [dtW] at hd; omega
    have hlc : eLc false (iE (eVar 0)) [1] (gVar 1) tYesM (eAnd (e2 leW (eC (.int 32)) (eN ordN [(eVar 1)])) (eAnd (e2 leW (eN ordN [(eVar 1)]) (eC (.int 126))) (eAnd (e2 neW (eN ordN [(eVar 1)]) (eC (.int 37))) (e2 neW (eN ordN [(eVar 1)]) (eC (.int 39)))))) [some (.str x), none] S = .ok (.lst ((x.cps.toList.map chrW).map fun w => W.bl (chrB signB w))) S :=
      lc_map (m := false) (f := fun w => W.bl (chrB signB w)) (iE_ok (w := .str x) (by simp) rfl) (by rw [List.length_map, len_cps]; simp; omega) (fun w hw => by
        obtain ⟨c, hc, rfl⟩ := List.mem_map.mp hw
        simp [wipeE, signB]
        rw [Bool.eq_iff_iff]
        simp
        omega)
    have hall : allN [.lst ((x.cps.toList.map chrW).map fun w => W.bl (chrB signB w))] S = some (.bl (x.cps.toList.all signB), S) := by
      rw [all_bls, all_chr]
    have hb : b__law_is_text (F n) = sSeq (sIf (tOr (tNot (tE (eN isiN [(eVar 0), (eC (.ty "str"))]))) (tB (e2 gtW (eN lenN [(eVar 0)]) (eC (.int 20))))) (sRet (eC (.bl false))) sNil)
      (sRet (eN allN [(eLc false (iE (eVar 0)) [1] (gVar 1) tYesM (eAnd (e2 leW (eC (.int 32)) (eN ordN [(eVar 1)])) (eAnd (e2 leW (eN ordN [(eVar 1)]) (eC (.int 126))) (eAnd (e2 neW (eN ordN [(eVar 1)]) (eC (.int 37))) (e2 neW (eN ordN [(eVar 1)]) (eC (.int 39)))))))])) := rfl
    rw [hb]
    generalize hM : (sRet (eN allN [(eLc false (iE (eVar 0)) [1] (gVar 1) tYesM (eAnd (e2 leW (eC (.int 32)) (eN ordN [(eVar 1)])) (eAnd (e2 leW (eN ordN [(eVar 1)]) (eC (.int 126))) (eAnd (e2 neW (eN ordN [(eVar 1)]) (eC (.int 37))) (e2 neW (eN ordN [(eVar 1)]) (eC (.int 39)))))))])) = M
    have hMe : M [some (.str x), none] S = .ret (.bl (x.cps.toList.all signB)) S := by
      rw [← hM, sRet_ap, eN_ap, evs_cons, hlc, R.bind_ok, evs_nil, R.bind_ok, R.bind_ok, hall]
      rfl
    simp [hlx, hMe]
    by_cases h1 : 20 < x.length
    · rw [if_pos (by omega)]
      simp [writtenB, hS]
      omega
    · rw [if_neg (by omega)]
      simp [writtenB, hS]
      omega
  | _ => first | (cases hd; done) | simp [b__law_is_text, hS, writtenB]
/-! ### small dicts -/
section
variable {G : GD} {k a b c : Str} {x y z : W}
@[simp] theorem in_l2 : inW G (.str k) (.lst [.str a, .str b]) S = some (.bl (decide (k = a) || decide (k = b)), S) := by
  rw [show ([W.str a, .str b] : List W) = [a, b].map W.str from rfl, in_strsL]; simp
@[simp] theorem in_l3 : inW G (.str k) (.lst [.str a, .str b, .str c]) S = some (.bl (decide (k = a) || (decide (k = b) || decide (k = c))), S) := by
  rw [show ([W.str a, .str b, .str c] : List W) = [a, b, c].map W.str from rfl, in_strsL]; simp
theorem putW_new {kvs : List (Key × W)} {k : Key} {w : W} (h : kvs.any (fun kv => decide (kv.1 = k)) = false) : putW kvs k w = kvs ++ [(k, w)] := by
  unfold putW
  rw [h]; rfl
theorem dicN2 (h : a ≠ b) : dicN false [.str a, x, .str b, y] S = some (.dic [.inr a, .inr b] [x, y], S) := by
  simp [dicN, dicKV, keyW, mergeW, putW, h]
theorem dicN3 (h1 : a ≠ b) (h2 : a ≠ c) (h3 : b ≠ c) : dicN false [.str a, x, .str b, y, .str c, z] S = some (.dic [.inr a, .inr b, .inr c] [x, y, z], S) := by
  simp [dicN, dicKV, keyW, mergeW, putW, h1, h2, h3]
theorem get_dic2 : getW gdT (.dic [.inr a, .inr b] [x, y]) (.str k) S = if a = k then some (x, S) else if b = k then some (y, S) else none := by
  simp [getW, lsW, dcW, keyW, valW, List.find?]
  by_cases h : a = k
  · simp [h]
  · by_cases h2 : b = k <;> simp [h, h2]
theorem get_dic3 : getW gdT (.dic [.inr a, .inr b, .inr c] [x, y, z]) (.str k) S = if a = k then some (x, S) else if b = k then some (y, S) else if c = k then some (z, S) else none := by
  simp [getW, lsW, dcW, keyW, valW, List.find?]
  by_cases h : a = k
  · simp [h]
  · by_cases h2 : b = k
    · simp [h, h2]
    · by_cases h3 : c = k <;> simp [h, h2, h3]
theorem get_dic2c {n : Nat} : getW gdT (.dic [.inr a, .inr b] [x, y]) (chrW n) S = if a = ⟨#[n]⟩ then some (x, S) else if b = ⟨#[n]⟩ then some (y, S) else none := get_dic2
theorem get_dic3c {n : Nat} : getW gdT (.dic [.inr a, .inr b, .inr c] [x, y, z]) (chrW n) S = if a = ⟨#[n]⟩ then some (x, S) else if b = ⟨#[n]⟩ then some (y, S) else if c = ⟨#[n]⟩ then some (z, S) else none := get_dic3
end
end Sh

set_option Elab.async false
set_option linter.all false
set_option maxRecDepth 100000
set_option maxHeartbeats 4000000
namespace Sh
open PySem L2
variable {n : Nat} {S J : Store}
/-! ### the law's is, in both cases -/
theorem opsL_lit : opsL.map W.str = [.str "+", .str "-", .str "*", .str "/", .str "mod", .str "."] := rfl
theorem testsL_lit : testsL.map W.str = [.str "<", .str "<=", .str "=", .str "<>", .str "is", .str "isnt"] := rfl
theorem row_isi {w : W} {ps : List W} (h : rowW w = some ps) : isiN [w, .tup [.ty "list", .ty "tuple"]] S = some (.bl true, S) := by
  cases w with
  | tup ws => simp
  | lst ws => simp
  | _ => cases h
theorem isrow_data {w : W} (hd : dtW w = true) : isiN [w, .tup [.ty "list", .ty "tuple"]] S = some (.bl (rowW w).isSome, S) := by
  cases w <;> first | (cases hd; done) | simp [rowW]
@[simp] theorem ne_chr {c : Nat} {b : Str} : neW (chrW c) (.str b) S = some (.bl (!decide ((⟨#[c]⟩ : Str) = b)), S) := by simp [chrW]
theorem b_law_is_item_eq (hS : Clo S) {C : Fn → Cal} {c : Nat} {w : W} {r : Nat} {kept : Bool} (hd : dtW w = true) (hc : c ∈ [101, 110, 116, 120, 111, 99, 109, 108, 100, 97])
    (c1 : ∀ w, dtW w = true → C .f__law_is [w, .int r, .bl kept] S = .ok (.bl (isW r kept w)) S)
    (c2 : ∀ w, dtW w = true → C .f__law_is_name [w] S = .ok (.bl (nameB w)) S)
    (c3 : ∀ w, dtW w = true → C .f__law_is_text [w] S = .ok (.bl (writtenB w)) S) :
    runDef 4 8 (b__law_is_item C) [chrW c, w, .int r, .bl kept] S = .ok (.bl (itemB (isW r kept) c w)) S := by
  have hrow : ∀ (c : Nat) (ps : List W), rowW w = some ps → ∀ y, ∃ y', sFor (iE (eVar 1)) (gVar 7) (sIf (tNot (tE (eCall (C .f__law_is) [(eVar 7), (eVar 2), (eVar 3)]))) (sRet (eC (.bl false))) sNil) [some (chrW c), some w, some (.int r), some (.bl kept), none, none, none, y] S
      = if ps.all (isW r kept) = true then .nx [some (chrW c), some w, some (.int r), some (.bl kept), none, none, none, y'] S else .ret (.bl false) S := by
    intro c ps hr y
    obtain ⟨hl, hp⟩ := row_dt hd hr
    obtain ⟨y', hy⟩ := sFor_all (it := iE (eVar 1)) (v := 7) (b := (sIf (tNot (tE (eCall (C .f__law_is) [(eVar 7), (eVar 2), (eVar 3)]))) (sRet (eC (.bl false))) sNil)) (ws := ps) (e := [some (chrW c), some w, some (.int r), some (.bl kept), none, none, none, y]) (S := S) (p := isW r kept) (r := .bl false)
      (iE_ok (w := w) (by simp) (row_iter hr)) (fun x hx => by
        simp [c1 x (hp x hx)]
        cases isW r kept x <;> simp) (by have := fuel_ge; omega) (by simp)
    exact ⟨y', hy⟩
  simp only [List.mem_cons, List.not_mem_nil, or_false] at hc
  rcases hc with rfl | rfl | rfl | rfl | rfl | rfl | rfl | rfl | rfl | rfl
  · simp [b__law_is_item, c1 w hd, hS, itemB]
  · have e : itemB (isW r kept) 110 w = intB (-999) 999 w := by simp [itemB, plainB]
    rw [e]
    cases w <;> first | (cases hd; done) | simp [b__law_is_item, hS, intB]
  · simp [b__law_is_item, c3 w hd, hS, itemB, plainB]
  · simp [b__law_is_item, c2 w hd, hS, itemB, plainB]
  · have e : itemB (isW r kept) 111 w = wordB opsL w := by simp [itemB, plainB]
    rw [e]
    cases w with
    | str s =>
      have hin : inW gdT (.str s) (.lst (opsL.map W.str)) S = some (.bl (decide (s ∈ opsL)), S) := in_strsL
      rw [opsL_lit] at hin
      simp at hin
      simp [b__law_is_item, hS, dicN2, get_dic2c, hin, wordB]
    | _ => first | (cases hd; done) | simp [b__law_is_item, hS, dicN2, get_dic2c, wordB]
  · have e : itemB (isW r kept) 99 w = wordB testsL w := by simp [itemB, plainB]
    rw [e]
    cases w with
    | str s =>
      have hin : inW gdT (.str s) (.lst (testsL.map W.str)) S = some (.bl (decide (s ∈ testsL)), S) := in_strsL
      rw [testsL_lit] at hin
      simp at hin
      simp [b__law_is_item, hS, dicN2, get_dic2c, hin, wordB]
    | _ => first | (cases hd; done) | simp [b__law_is_item, hS, dicN2, get_dic2c, wordB]
  · have e : itemB (isW r kept) 109 w = intB 0 20 w := by simp [itemB, plainB]
    rw [e]
    cases w <;> first | (cases hd; done) | simp [b__law_is_item, hS, intB]
  · have hir := isrow_data (S := S) hd
    cases hr : rowW w with
    | none =>
      rw [hr] at hir
      simp [-isi_tup, b__law_is_item, hir, hS, itemB, rowB, hr]
    | some ps =>
      rw [hr] at hir
      have hlen := row_len (S := S) hr
      simp only [Option.isSome_some] at hir
      obtain ⟨y', hy⟩ := hrow 108 ps hr none
      have e : itemB (isW r kept) 108 w = (decide (0 ≤ ps.length) && decide (ps.length ≤ 4) && ps.all (isW r kept)) := by simp [itemB, rowB, hr]
      rw [e]
      generalize ps.all (isW r kept) = al at hy
      simp [-isi_tup, b__law_is_item, hir, hlen, dicN3, get_dic3c, hy]
      by_cases h1 : ps.length ≤ 4
      · rw [if_neg (by omega)]
        cases al with
        | true =>
          simp [hlen, hS, h1]
          try rfl
        | false => simp [hS]
      · rw [if_pos (by omega)]
        simp [h1, hS]
  · have hir := isrow_data (S := S) hd
    cases hr : rowW w with
    | none =>
      rw [hr] at hir
      simp [-isi_tup, b__law_is_item, hir, hS, itemB, rowB, hr]
    | some ps =>
      rw [hr] at hir
      have hlen := row_len (S := S) hr
      simp only [Option.isSome_some] at hir
      obtain ⟨y', hy⟩ := hrow 100 ps hr none
      have e : itemB (isW r kept) 100 w = (decide (1 ≤ ps.length) && decide (ps.length ≤ 6) && ps.all (isW r kept)) := by simp [itemB, rowB, hr]
      rw [e]
      generalize ps.all (isW r kept) = al at hy
      simp [-isi_tup, b__law_is_item, hir, hlen, dicN3, get_dic3c, hy]
      by_cases h1 : ps.length ≤ 6
      · rw [if_neg (by omega)]
        cases al with
        | true =>
          simp [hlen, hS, h1]
          try rfl
        | false => simp [hS]
      · rw [if_pos (by omega)]
        simp [h1, hS]
  · have hir := isrow_data (S := S) hd
    cases hr : rowW w with
    | none =>
      rw [hr] at hir
      simp [-isi_tup, b__law_is_item, hir, hS, itemB, rowB, hr]
    | some ps =>
      rw [hr] at hir
      have hlen := row_len (S := S) hr
      simp only [Option.isSome_some] at hir
      obtain ⟨y', hy⟩ := hrow 97 ps hr none
      have e : itemB (isW r kept) 97 w = (decide (0 ≤ ps.length) && decide (ps.length ≤ 3) && ps.all (isW r kept)) := by simp [itemB, rowB, hr]
      rw [e]
      generalize ps.all (isW r kept) = al at hy
      simp [-isi_tup, b__law_is_item, hir, hlen, dicN3, get_dic3c, hy]
      by_cases h1 : ps.length ≤ 3
      · rw [if_neg (by omega)]
        cases al with
        | true =>
          simp [hlen, hS, h1]
          try rfl
        | false => simp [hS]
      · rw [if_pos (by omega)]
        simp [h1, hS]
theorem b_law_is_eq (hS : Clo S) {C : Fn → Cal} {w : W} {r : Nat} {kept : Bool} (hd : dtW w = true)
    (c1 : C .f__law_shapes [] S = .ok SHD S)
    (c2 : ∀ c w b, c ∈ [101, 110, 116, 120, 111, 99, 109, 108, 100, 97] → dtW w = true → C .f__law_is_item [chrW c, w, .int r, .bl b] S = .ok (.bl (itemB (isW r b) c w)) S) :
    runDef 3 6 (b__law_is C) [w, .int (r + 1 : Nat), .bl kept] S = .ok (.bl (isW (r + 1) kept w)) S := by
  have hir := isrow_data (S := S) hd
  cases hr : rowW w with
  | none =>
    rw [hr] at hir
    simp [-isi_tup, b__law_is, hir, hS, isW, hr]
  | some ps =>
    rw [hr] at hir
    simp only [Option.isSome_some] at hir
    obtain ⟨hl, hp⟩ := row_dt hd hr
    have h2 := fun S => row_len (S := S) hr
    have h3 := fun (i : Nat) => row_get (S := S) (i := i) (G := gdT) hr
    have h3s : ∀ i : Nat, getW gdT w (.int ((i : Int) + 1)) S = ps[i + 1]?.map fun w => (w, S) := fun i => h3 (i + 1)
    have h30 := h3 0
    simp at h30
    cases ps with
    | nil => simp [-isi_tup, b__law_is, hir, h2, hS, isW, hr]
    | cons kk its =>
      have hk := hp kk List.mem_cons_self
      have hr1 : ¬ ((r : Int) + 1 < 1) := by omega
      cases kk with
      | str k =>
        have hle : inW gdT (.str k) (.lst [.str ⟨#[98, 97, 99, 107]⟩, .str ⟨#[111, 117, 116]⟩, .str ⟨#[102, 97, 108, 108]⟩]) S = some (.bl (decide (k ∈ leavingL)), S) := in_strsL (xs := leavingL)
        simp at h30
        simp only [List.getElem?_cons_succ] at h3s
        simp [-isi_tup, -in_l3, b__law_is, hS, isW, hir, h2, h30, hr, c1, notIn_SHD2, hr1]
        cases hsh : shapeOf k with
        | none => simp [hS]
        | some sh =>
          obtain ⟨hs3, hsl⟩ := shape_len hsh
          have hsz : sh.length ≤ 16777216 := by omega
          simp [-in_l3, get_SHD hsh, hsz]
          by_cases hlen : its.length = sh.length
          · have hz : ((its.length : Int) + 1 = (sh.length : Int) + 1) := by omega
            simp [-in_l3, hz, hle]
            rw [if_neg (by omega), if_pos (by omega)]
            have main : ∀ b, b = (kept || decide (k = ⟨#[107, 101, 101, 112]⟩)) → RS.fin S ((sFor (iRange1 (eN lenN [e2 (getW gdT) (eVar 3) (eVar 4)])) (gVar 5) (sIf (tNot (tE (eCall (C .f__law_is_item) [e2 (getW gdT) (e2 (getW gdT) (eVar 3) (eVar 4)) (eVar 5), e2 (getW gdT) (eVar 0) (e2 (addW false) (eVar 5) (eC (.int 1))), e2 subW (eVar 1) (eC (.int 1)), eOr (eVar 2) (e2 eqW (eVar 4) (eC (.str ⟨#[107, 101, 101, 112]⟩)))]))) (sRet (eC (.bl false))) sNil)
                [some w, some (.int (r + 1)), some (.bl kept), some SHD, some (.str k), none] S).seq (sRet (eC (.bl true)))) = .ok (.bl ((sh.cps.toList.zip its).all fun p => itemB (isW r b) p.1 p.2)) S := by
              rintro b hb
              have hzl : (sh.cps.toList.zip its).length = sh.length := by
                rw [List.length_zip, hlen]; exact Nat.min_self _
              refine fin_inv (fun i e S' => S' = S ∧ i ≤ sh.length ∧ (∃ x, e = [some w, some (.int (r + 1)), some (.bl kept), some SHD, some (.str k), x]) ∧ ((sh.cps.toList.zip its).take i).all (fun p => itemB (isW r b) p.1 p.2) = true) sh.length (by have := fuel_ge; omega)
                (J := itR 0 sh.length) (iRange1_ok (by simp [get_SHD hsh, hsz]) hsz) ⟨rfl, Nat.zero_le _, ⟨_, rfl⟩, by simp⟩ (fun i e S h => h.2.1) ?_
              rintro i e S' ⟨rfl, hi, ⟨x5, rfl⟩, hall⟩
              by_cases hil : i < sh.length
              · refine .inr ⟨.int i, _, _, by simp [itR, hil], rfl, ?_⟩
                obtain ⟨c, hc⟩ : ∃ c, sh.cps.toList[i]? = some c := ⟨_, List.getElem?_eq_getElem (by rw [len_cps]; exact hil)⟩
                obtain ⟨x, hx⟩ : ∃ x, its[i]? = some x := ⟨_, List.getElem?_eq_getElem (by rw [hlen]; exact hil)⟩
                have hxd : dtW x = true := hp x (List.mem_cons_of_mem _ (List.mem_of_getElem? hx))
                have hzi : (sh.cps.toList.zip its)[i]? = some (c, x) := by
                  rw [List.getElem?_zip_eq_some]; exact ⟨hc, hx⟩
                have hcm : c ∈ [101, 110, 116, 120, 111, 99, 109, 108, 100, 97] := of_decide_eq_true (List.all_eq_true.mp hsl c (List.mem_of_getElem? hc))
                have hnext : ((sh.cps.toList.zip its).take (i + 1)).all (fun p => itemB (isW r b) p.1 p.2) = itemB (isW r b) c x := by
                  rw [List.take_add_one, hzi]; simp [hall]
                have hfin : itemB (isW r b) c x = false → (sh.cps.toList.zip its).all (fun p => itemB (isW r b) p.1 p.2) = false := fun h => by
                  rw [List.all_eq_false]
                  exact ⟨(c, x), List.mem_of_getElem? hzi, by simp [h]⟩
                have h5 := c2 c x b hcm hxd
                rw [hb] at h5 hnext hfin ⊢
                simp [get_SHD hsh, hsz, hc, hx, h3s, h5]
                cases hv : itemB (isW r (kept || decide (k = ⟨#[107, 101, 101, 112]⟩))) c x with
                | true => simp; refine ⟨hil, ?_⟩; have h9 := hnext.trans hv; simpa using h9
                | false => simp [hS, hfin hv]
              · have hie : i = sh.length := by omega
                refine .inl ⟨by simp [itR, hil], ?_⟩
                rw [hie, ← hzl, List.take_length] at hall
                simp [hS, hall]
            rw [main _ rfl]
            by_cases hkp : kept = true
            · by_cases hkl : k ∈ leavingL
              · simp [hkp, hkl, hS]
              · simp [hkp, hkl, hlen]
            · have hkf : kept = false := by simpa using hkp
              simp [hkf, hlen]
          · have hz : ¬ ((its.length : Int) + 1 = (sh.length : Int) + 1) := by omega
            simp [hz, hlen, hS]
            intro _ h
            omega
      | _ => first | (cases hk; done) | (simp at h30; simp [-isi_tup, b__law_is, hS, isW, hir, h2, h30, hr, c1, hr1])
theorem law_is_eq (hS : Clo S) : ∀ (r n : Nat) (w : W) (kept : Bool), 2 * r + 4 ≤ n → dtW w = true → F n .f__law_is [w, .int r, .bl kept] S = .ok (.bl (isW r kept w)) S
  | 0, n, w, kept, hn, hd => by
    obtain ⟨m, rfl⟩ : ∃ m, n = m + 1 := ⟨n - 1, by omega⟩
    rw [F__law_is]
    have hir := isrow_data (S := S) hd
    cases hr : rowW w with
    | none =>
      rw [hr] at hir
      simp [-isi_tup, b__law_is, hir, hS, isW]
    | some ps =>
      rw [hr] at hir
      simp only [Option.isSome_some] at hir
      have h2 := fun S => row_len (S := S) hr
      simp [-isi_tup, b__law_is, hir, h2, hS, isW]
  | r + 1, n, w, kept, hn, hd => by
    obtain ⟨m, rfl⟩ : ∃ m, n = m + 4 := ⟨n - 4, by omega⟩
    rw [F__law_is]
    refine b_law_is_eq hS hd (shapes_eq (n := m + 2) hS) (fun c w b hc hd => ?_)
    rw [F__law_is_item]
    exact b_law_is_item_eq hS hd hc (fun w hd => law_is_eq hS r (m + 2) w b (by omega) hd) (fun w hd => law_is_name_eq (n := m) hS hd) (fun w hd => law_is_text_eq (n := m + 1) hS hd)
end Sh

set_option Elab.async false
set_option linter.all false
set_option maxRecDepth 100000
set_option maxHeartbeats 4000000
namespace Sh
open PySem L2
variable {n : Nat} {S J : Store}
/-! ### well shaped, whatever is kept -/
def isV : Nat → W → Bool
  | 0, _ => false
  | r + 1, w => match rowW w with
    | some (.str k :: its) => match shapeOf k with
      | some sh => decide (its.length = sh.length) && (sh.cps.toList.zip its).all fun p => itemB (isV r) p.1 p.2
      | none => false
    | _ => false
def partL (c : Nat) (x : W) : List W := if c = 101 then [x] else if c = 108 ∨ c = 100 ∨ c = 97 then (rowW x).getD [] else []
def partsW (w : W) : List W := match rowW w with
  | some (.str k :: its) => match shapeOf k with
    | some sh => (sh.cps.toList.zip its).flatMap fun p => partL p.1 p.2
    | none => []
  | _ => []
/-- the row of an expression -/
structure ExW (w : W) (k sh : Str) (its : List W) : Prop where
  row : rowW w = some (.str k :: its)
  shp : shapeOf k = some sh
  len : its.length = sh.length
  rows : ∀ p ∈ sh.cps.toList.zip its, p.1 = 108 ∨ p.1 = 100 ∨ p.1 = 97 → ∃ ys, rowW p.2 = some ys ∧ ys.length ≤ 6
theorem isV_ex {r : Nat} {w : W} (h : isV (r + 1) w = true) : ∃ k sh its, ExW w k sh its ∧ ∀ p ∈ sh.cps.toList.zip its, itemB (isV r) p.1 p.2 = true := by
  unfold isV at h
  split at h
  · rename_i k its hr
    split at h
    · rename_i sh hs
      simp only [Bool.and_eq_true, decide_eq_true_eq, List.all_eq_true] at h
      refine ⟨k, sh, its, ⟨hr, hs, h.1, fun p hp hc => ?_⟩, fun p hp => h.2 p hp⟩
      have := h.2 p hp
      have h101 : ¬ p.1 = 101 := by omega
      unfold itemB at this
      rw [if_neg h101, if_pos hc] at this
      unfold rowB at this
      cases hx : rowW p.2 with
      | none => rw [hx] at this; cases this
      | some ys =>
        rw [hx] at this
        simp only [Bool.and_eq_true, decide_eq_true_eq] at this
        refine ⟨ys, rfl, ?_⟩
        have := this.1.2
        split at this
        · exact this
        · split at this <;> omega
    · cases h
  · cases h
theorem parts_isV {r : Nat} {w : W} (h : isV (r + 1) w = true) : ∀ p ∈ partsW w, isV r p = true := by
  obtain ⟨k, sh, its, E, hi⟩ := isV_ex h
  intro p hp
  unfold partsW at hp
  rw [E.row] at hp
  simp only [E.shp] at hp
  obtain ⟨q, hq, hp⟩ := List.mem_flatMap.mp hp
  have hi' := hi q hq
  unfold partL at hp
  unfold itemB at hi'
  split at hp
  · rename_i h1
    rw [if_pos h1] at hi'
    rw [List.mem_singleton.mp hp]; exact hi'
  · rename_i h1
    rw [if_neg h1] at hi'
    split at hp
    · rename_i h2
      rw [if_pos h2] at hi'
      unfold rowB at hi'
      cases hx : rowW q.2 with
      | none => rw [hx] at hp; cases hp
      | some ys =>
        rw [hx] at hi' hp
        simp only [Bool.and_eq_true, List.all_eq_true] at hi'
        exact hi'.2 p hp
    · cases hp
theorem acc_ext_row {S J : Store} {acc ys : List W} {y : W} (h : rowW y = some ys) : extM (.ref S.length) [y] (S ++ .lst acc :: J) = if acc.length + ys.length ≤ sizeLine then some (.non, S ++ .lst (acc ++ ys) :: J) else none := by
  cases y with
  | tup ws => cases h; exact acc_ext_tup
  | lst ws => cases h; exact acc_ext_lst
  | _ => cases h
theorem partsW_len {w : W} {k sh : Str} {its : List W} (E : ExW w k sh its) : ∀ i, ((sh.cps.toList.zip its).take i |>.flatMap fun p => partL p.1 p.2).length ≤ 6 * i
  | 0 => by simp
  | i + 1 => by
    rw [List.take_add_one, List.flatMap_append, List.length_append]
    have ih := partsW_len E i
    cases hz : (sh.cps.toList.zip its)[i]? with
    | none => simp only [Option.toList, List.flatMap_nil, List.length_nil]; omega
    | some p =>
      simp only [Option.toList, List.flatMap_cons, List.flatMap_nil, List.append_nil]
      have : (partL p.1 p.2).length ≤ 6 := by
        unfold partL
        split
        · simp
        · split
          · rename_i h2
            obtain ⟨ys, h3, h4⟩ := E.rows p (List.mem_of_getElem? hz) h2
            rw [h3]; exact h4
          · simp
      omega
theorem parts_dt {w : W} (hd : dtW w = true) : ∀ p ∈ partsW w, dtW p = true := fun p hp => by
  unfold partsW at hp
  split at hp
  · rename_i k its hr
    obtain ⟨hl, hq⟩ := row_dt hd hr
    split at hp
    · rename_i sh hs
      obtain ⟨z, hz, hp⟩ := List.mem_flatMap.mp hp
      have hz2 : dtW z.2 = true := hq _ (List.mem_cons_of_mem _ (List.of_mem_zip hz).2)
      unfold partL at hp
      split at hp
      · rw [List.mem_singleton.mp hp]; exact hz2
      · split at hp
        · cases hx : rowW z.2 with
          | none => rw [hx] at hp; cases hp
          | some ys => rw [hx] at hp; exact (row_dt hz2 hx).2 p hp
        · cases hp
    · cases hp
  · cases hp
theorem parts_len {w : W} {k sh : Str} {its : List W} (E : ExW w k sh its) : (partsW w).length ≤ 18 := by
  have h := partsW_len E sh.length
  have hzl : (sh.cps.toList.zip its).length = sh.length := by
    rw [List.length_zip, E.len]; exact Nat.min_self _
  have := (shape_len E.shp).1
  unfold partsW
  rw [E.row]
  simp only [E.shp]
  rw [← hzl, List.take_length] at h
  rw [hzl] at h
  omega
theorem law_parts_eq (hS : Clo S) {w : W} (hd : dtW w = true) {k sh : Str} {its : List W} (E : ExW w k sh its) : F (n + 2) .f__law_parts [w] S = .ok (.lst (partsW w)) S := by
  obtain ⟨hs3, hsl⟩ := shape_len E.shp
  obtain ⟨hl, hp⟩ := row_dt hd E.row
  have h3 := fun (S : Store) (i : Nat) => row_get (S := S) (i := i) (G := gdT) E.row
  have h30 := fun S => h3 S 0
  have h3s : ∀ (S : Store) (i : Nat), getW gdT w (.int ((i : Int) + 1)) S = its[i]?.map fun w => (w, S) := fun S i => h3 S (i + 1)
  simp at h30
  have hsz : sh.length ≤ 16777216 := by omega
  have hzl : (sh.cps.toList.zip its).length = sh.length := by
    rw [List.length_zip, E.len]; exact Nat.min_self _
  have hpw : partsW w = (sh.cps.toList.zip its).flatMap fun p => partL p.1 p.2 := by
    unfold partsW
    rw [E.row]
    simp only [E.shp]
  have hsp : F (n + 1) .f__law_shapes [] (S ++ [.lst []]) = .ok SHD (S ++ [.lst []]) := shapes_eq (clo_push hS rfl)
  have hgs := get_SHD (S := S ++ [.lst []]) E.shp
  rw [F__law_parts]
  simp [b__law_parts, h30, hsp, hgs]
  refine fin_inv (fun i e S' => i ≤ sh.length ∧ S' = S ++ [.lst ((sh.cps.toList.zip its).take i |>.flatMap fun p => partL p.1 p.2)] ∧ ∃ x3, e = [some w, some (.ref S.length), some (.str sh), x3]) sh.length (by have := fuel_ge; omega)
    (iRange1_ok (by simp [hsz]) hsz) ⟨Nat.zero_le _, by simp, ⟨_, rfl⟩⟩ (fun i e S h => h.1) ?_
  rintro i e S' ⟨hi, rfl, x3, rfl⟩
  by_cases hil : i < sh.length
  · refine .inr ⟨.int i, _, _, by simp [hil], rfl, ?_⟩
    obtain ⟨c, hc⟩ : ∃ c, sh.cps.toList[i]? = some c := ⟨_, List.getElem?_eq_getElem (by rw [len_cps]; exact hil)⟩
    obtain ⟨x, hx⟩ : ∃ x, its[i]? = some x := ⟨_, List.getElem?_eq_getElem (by rw [E.len]; exact hil)⟩
    have hzi : (sh.cps.toList.zip its)[i]? = some (c, x) := by
      rw [List.getElem?_zip_eq_some]; exact ⟨hc, hx⟩
    have hlen := partsW_len E i
    have hnext : ((sh.cps.toList.zip its).take (i + 1) |>.flatMap fun p => partL p.1 p.2) = ((sh.cps.toList.zip its).take i |>.flatMap fun p => partL p.1 p.2) ++ partL c x := by
      rw [List.take_add_one, hzi]; simp
    generalize ((sh.cps.toList.zip its).take i |>.flatMap fun p => partL p.1 p.2) = acc at hlen hnext
    have ha : acc.length < 16777216 := by omega
    simp [hsz, hc, hx, h3s]
    by_cases h101 : c = 101
    · simp [h101, ha]
      refine ⟨hil, ?_⟩
      rw [hnext]; simp [partL, h101]
    · by_cases hrow : c = 108 ∨ c = 100 ∨ c = 97
      · obtain ⟨ys, hy, hy6⟩ := E.rows _ (List.mem_of_getElem? hzi) hrow
        have hy2 : acc.length + ys.length ≤ 16777216 := by omega
        simp [if_neg h101, if_pos hrow, acc_ext_row hy, hy2]
        refine ⟨hil, ?_⟩
        rw [hnext]
        unfold partL
        rw [if_neg h101, if_pos hrow, hy]; simp
      · simp [if_neg h101, if_neg hrow]
        refine ⟨hil, ?_⟩
        rw [hnext]
        unfold partL
        rw [if_neg h101, if_neg hrow]; simp
  · have hie : i = sh.length := by omega
    refine .inl ⟨itR_ge hil, ?_⟩
    rw [hie, ← hzl, List.take_length, ← hpw]
    simp
    refine cut_lst (J := []) hS (dt_lows (dtWs_all.mpr fun q hq => ?_))
    rw [hpw] at hq
    obtain ⟨z, hz, hq⟩ := List.mem_flatMap.mp hq
    have hz2 : dtW z.2 = true := hp _ (List.mem_cons_of_mem _ (List.of_mem_zip hz).2)
    unfold partL at hq
    split at hq
    · rw [List.mem_singleton.mp hq]; exact hz2
    · split at hq
      · cases hx : rowW z.2 with
        | none => rw [hx] at hq; cases hq
        | some ys => rw [hx] at hq; exact (row_dt hz2 hx).2 q hq
      · cases hq
end Sh

set_option Elab.async false
set_option linter.all false
set_option maxRecDepth 100000
set_option maxHeartbeats 4000000
namespace Sh
open PySem L2
variable {n : Nat} {S J : Store}
/-! ### weights, signs, depth -/
def wtKs : List Key → Nat
  | [] => 0
  | .inl _ :: r => 40 + wtKs r
  | .inr x :: r => 10 * x.length + 10 + wtKs r
mutual
def wtW : W → Nat
  | .non => 8
  | .bl _ => 8
  | .int _ => 30
  | .str x => 10 * x.length + 4
  | .tup ws => wtWs ws + 6
  | .lst ws => wtWs ws + 6
  | .dic ks ws => wtKs ks + wtWs ws + 6
  | .ref _ => 1
  | .ty _ => 1
  | .glo _ => 1
  | .scr _ => 1
def wtWs : List W → Nat
  | [] => 0
  | w :: ws => wtW w + 2 + wtWs ws
end
mutual
/-- plain signs, moderate keys -/
def chW : W → Bool
  | .str x => x.cps.toList.all fun c => decide (c < 1000)
  | .tup ws => chWs ws
  | .lst ws => chWs ws
  | .dic ks ws => (ks.all fun k => match k with | .inl i => decide (-1000 ≤ i) && decide (i ≤ 1000) | .inr x => x.cps.toList.all fun c => decide (c < 1000)) && chWs ws
  | .non => true
  | .bl _ => true
  | .int _ => true
  | .ref _ => false
  | .ty _ => false
  | .glo _ => false
  | .scr _ => false
def chWs : List W → Bool
  | [] => true
  | w :: ws => chW w && chWs ws
end
theorem chWs_all : ∀ {ws : List W}, chWs ws = true ↔ ∀ w ∈ ws, chW w = true
  | [] => by simp [chWs]
  | w :: ws => by simp [chWs, chWs_all (ws := ws)]
mutual
def dpW : W → Nat
  | .tup ws => dpWs ws + 1
  | .lst ws => dpWs ws + 1
  | .dic _ ws => dpWs ws + 1
  | .non => 0
  | .bl _ => 0
  | .int _ => 0
  | .str _ => 0
  | .ref _ => 0
  | .ty _ => 0
  | .glo _ => 0
  | .scr _ => 0
def dpWs : List W → Nat
  | [] => 0
  | w :: ws => max (dpW w) (dpWs ws)
end
mutual
/-- how many rows -/
def cnW : W → Nat
  | .tup ws => cnWs ws + 1
  | .lst ws => cnWs ws + 1
  | .dic _ ws => cnWs ws + 1
  | .non => 0
  | .bl _ => 0
  | .int _ => 0
  | .str _ => 0
  | .ref _ => 0
  | .ty _ => 0
  | .glo _ => 0
  | .scr _ => 0
def cnWs : List W → Nat
  | [] => 0
  | w :: ws => cnW w + cnWs ws
end
structure OkW (w : W) : Prop where
  dt : dtW w = true
  ch : chW w = true
/-- u stands where x stood, with the piece in it -/
structure Le (pc u x : W) : Prop where
  ok : OkW u
  wt : wtW u ≤ wtW x + wtW pc
  dp : dpW u ≤ dpW x + dpW pc
  cn : cnW u ≤ cnW x + cnW pc
theorem wtWs_mem : ∀ {ws : List W} {w : W}, w ∈ ws → wtW w + 2 ≤ wtWs ws
  | x :: ws, w, h => by
    simp only [wtWs]
    rcases List.mem_cons.mp h with rfl | h
    · omega
    · have := wtWs_mem h; omega
theorem dpWs_mem : ∀ {ws : List W} {w : W}, w ∈ ws → dpW w ≤ dpWs ws
  | x :: ws, w, h => by
    simp only [dpWs]
    rcases List.mem_cons.mp h with rfl | h
    · exact Nat.le_max_left _ _
    · exact Nat.le_trans (dpWs_mem h) (Nat.le_max_right _ _)
theorem dps_le {ws : List W} {d : Nat} (h : ∀ w ∈ ws, dpW w ≤ d) : dpWs ws ≤ d := by
  induction ws with
  | nil => exact Nat.zero_le _
  | cons w ws ih =>
    simp only [dpWs]
    exact Nat.max_le.mpr ⟨h w (by simp), ih fun x hx => h x (by simp [hx])⟩
theorem wt_set {pc u x : W} (h : Le pc u x) : ∀ {ws : List W} {i : Nat}, ws[i]? = some x → wtWs (ws.set i u) ≤ wtWs ws + wtW pc
  | w :: ws, 0, e => by
    have e : w = x := by simpa using e
    subst e
    simp only [List.set_cons_zero, wtWs]
    have := h.wt
    omega
  | w :: ws, i + 1, e => by
    have := wt_set h (ws := ws) (i := i) (by simpa using e)
    simp only [List.set_cons_succ, wtWs]
    omega
theorem cn_set {pc u x : W} (h : Le pc u x) : ∀ {ws : List W} {i : Nat}, ws[i]? = some x → cnWs (ws.set i u) ≤ cnWs ws + cnW pc
  | w :: ws, 0, e => by
    have e : w = x := by simpa using e
    subst e
    simp only [List.set_cons_zero, cnWs]
    have := h.cn
    omega
  | w :: ws, i + 1, e => by
    have := cn_set h (ws := ws) (i := i) (by simpa using e)
    simp only [List.set_cons_succ, cnWs]
    omega
theorem row_cn {w : W} {ps : List W} (hr : rowW w = some ps) : cnW w = cnWs ps + 1 := by
  cases w with
  | tup ws => cases hr; rfl
  | lst ws => cases hr; rfl
  | _ => cases hr
theorem dp_set {pc u x : W} (h : Le pc u x) {ws : List W} {i : Nat} (e : ws[i]? = some x) : dpWs (ws.set i u) ≤ dpWs ws + dpW pc := dps_le fun w hw => by
  rcases List.mem_or_eq_of_mem_set hw with hw | rfl
  · have := dpWs_mem hw; omega
  · have := h.dp
    have := dpWs_mem (List.mem_of_getElem? e)
    omega
def OkWs (ws : List W) : Prop := ws.length ≤ 1000 ∧ ∀ w ∈ ws, OkW w
theorem OkWs.dts {ws : List W} (h : OkWs ws) : dtWs ws = true := dtWs_all.mpr fun w hw => (h.2 w hw).dt
theorem OkWs.tup {ws : List W} (h : OkWs ws) : OkW (.tup ws) := ⟨by simp only [dtW, Bool.and_eq_true, decide_eq_true_eq]; exact ⟨h.1, h.dts⟩, chWs_all.mpr fun w hw => (h.2 w hw).ch⟩
theorem OkWs.lst {ws : List W} (h : OkWs ws) : OkW (.lst ws) := ⟨by simp only [dtW, Bool.and_eq_true, decide_eq_true_eq]; exact ⟨h.1, h.dts⟩, chWs_all.mpr fun w hw => (h.2 w hw).ch⟩
theorem OkW.row {w : W} {ps : List W} (h : OkW w) (hr : rowW w = some ps) : OkWs ps := by
  obtain ⟨hl, hp⟩ := row_dt h.dt hr
  refine ⟨hl, fun p hp' => ⟨hp p hp', ?_⟩⟩
  have hc := h.ch
  cases w with
  | tup ws => cases hr; exact chWs_all.mp hc p hp'
  | lst ws => cases hr; exact chWs_all.mp hc p hp'
  | _ => cases hr
theorem row_wt {w : W} {ps : List W} (hr : rowW w = some ps) : wtW w = wtWs ps + 6 := by
  cases w with
  | tup ws => cases hr; rfl
  | lst ws => cases hr; rfl
  | _ => cases hr
theorem row_dp {w : W} {ps : List W} (hr : rowW w = some ps) : dpW w = dpWs ps + 1 := by
  cases w with
  | tup ws => cases hr; rfl
  | lst ws => cases hr; rfl
  | _ => cases hr
theorem OkWs.set {ws : List W} (h : OkWs ws) {i : Nat} {u : W} (hu : OkW u) : OkWs (ws.set i u) := by
  refine ⟨by rw [List.length_set]; exact h.1, fun w hw => ?_⟩
  rcases List.mem_or_eq_of_mem_set hw with hw | rfl
  · exact h.2 w hw
  · exact hu
/-! ### how many parts -/
def szW : Nat → W → Nat
  | 0, _ => 1
  | r + 1, w => 1 + ((partsW w).map (szW r)).sum
theorem wtWs_app : ∀ {a b : List W}, wtWs (a ++ b) = wtWs a + wtWs b
  | [], b => by simp [wtWs]
  | x :: a, b => by simp only [List.cons_append, wtWs, wtWs_app (a := a)]; omega
theorem sum_wt {g : W → Nat} (hg : ∀ w, g w ≤ wtW w) : ∀ {ws : List W}, (ws.map g).sum ≤ wtWs ws
  | [] => by simp [wtWs]
  | w :: ws => by
    have := hg w
    have := sum_wt hg (ws := ws)
    simp only [List.map_cons, List.sum_cons, wtWs]
    omega
theorem part_wt {c : Nat} {x : W} : wtWs (partL c x) ≤ wtW x + 2 := by
  unfold partL
  split
  · simp only [wtWs]; omega
  · split
    · cases hr : rowW x with
      | none => simp [wtWs]
      | some ps => rw [row_wt hr]; simp only [Option.getD_some]; omega
    · simp only [wtWs]; omega
theorem parts_wt : ∀ {cs : List Nat} {its : List W}, wtWs ((cs.zip its).flatMap fun p => partL p.1 p.2) ≤ wtWs its
  | [], its => by simp [wtWs]
  | c :: cs, [] => by simp [wtWs]
  | c :: cs, x :: its => by
    rw [List.zip_cons_cons, List.flatMap_cons, wtWs_app]
    have h1 := part_wt (c := c) (x := x)
    have h2 := parts_wt (cs := cs) (its := its)
    simp only [wtWs]
    omega
theorem partsW_wt {w : W} : wtWs (partsW w) ≤ wtW w := by
  unfold partsW
  split
  · rename_i k its hr
    rw [row_wt hr]
    split
    · rename_i sh _
      simp only [wtWs]
      have := parts_wt (cs := sh.cps.toList) (its := its)
      omega
    · simp [wtWs]
  · simp [wtWs]
theorem sz_wt : ∀ {r : Nat} {w : W}, szW r w ≤ wtW w + 1
  | 0, w => by simp [szW]
  | r + 1, w => by
    have h1 : ∀ ws : List W, (ws.map (szW r)).sum ≤ wtWs ws := by
      intro ws
      induction ws with
      | nil => simp
      | cons x ws ih =>
        have := sz_wt (r := r) (w := x)
        simp only [List.map_cons, List.sum_cons, wtWs]
        omega
    have h2 := h1 (partsW w)
    have h3 := partsW_wt (w := w)
    simp only [szW]
    omega
theorem szs_take8 {r : Nat} {bs : List W} {i : Nat} {b : W} (h : bs[i]? = some b) : ((bs.take (i + 1)).map (szW r)).sum = ((bs.take i).map (szW r)).sum + szW r b := by
  rw [List.take_add_one, h]
  simp
theorem sum_take_le {α : Type} {g : α → Nat} {bs : List α} (i : Nat) : ((bs.take i).map g).sum ≤ (bs.map g).sum := by
  conv => rhs; rw [← List.take_append_drop i bs]
  rw [List.map_append, List.sum_append]
  exact Nat.le_add_right _ _
/-- a row of the walk -/
def WayP (x : W) : Prop := ∃ (vs : List Int) (w : W), x = .tup [.tup (vs.map W.int), w] ∧ vs.length ≤ 1000 ∧ dtW w = true
theorem WayP.low {x : W} (h : WayP x) {n : Nat} : lowW n x = true := by
  obtain ⟨vs, w, rfl, _, hw⟩ := h
  simp only [lowW, lowWs, Bool.and_true, Bool.and_eq_true]
  exact ⟨lowWs_all.mpr fun q hq => by obtain ⟨z, _, rfl⟩ := List.mem_map.mp hq; rfl, dt_low hw⟩
theorem walk_eq : ∀ (r n : Nat) (S : Store) (w : W) (ws : List Int), Clo S → r + 3 ≤ n → dtW w = true → isV r w = true → szW r w ≤ 8000000 → ws.length + r ≤ 1000 →
    ∃ rs : List W, F n .f__law_walk [w, .tup (ws.map W.int)] S = .ok (.lst rs) S ∧ rs.length = szW r w ∧ ∀ x ∈ rs, WayP x
  | 0, n, S, w, ws, hS, hn, hd, hw, hz, hwl => by cases hw
  | r + 1, n, S, w, ws, hS, hn, hd, hw, hz, hwl => by
    obtain ⟨m, rfl⟩ : ∃ m, n = m + 4 := ⟨n - 4, by omega⟩
    obtain ⟨k, sh, its, E, _⟩ := isV_ex hw
    have hp := parts_isV hw
    have hpd := parts_dt hd
    have hpl := parts_len E
    have hx0 : WayP (.tup [.tup (ws.map W.int), w]) := ⟨ws, w, rfl, by omega, hd⟩
    have hlow : ∀ {rs : List W} {n : Nat}, (∀ x ∈ rs, WayP x) → lowWs n rs = true := fun h => lowWs_all.mpr fun q hq => (h q hq).low
    have hS1 : Clo (S ++ [.lst [.tup [.tup (ws.map W.int), w]]]) := clo_push hS (hlow (rs := [_]) fun x hx => by rw [List.mem_singleton.mp hx]; exact hx0)
    have hps : F (m + 3) .f__law_parts [w] (S ++ [.lst [.tup [.tup (ws.map W.int), w]]]) = .ok (.lst (partsW w)) (S ++ [.lst [.tup [.tup (ws.map W.int), w]]]) := law_parts_eq (n := m + 1) hS1 hd E
    rw [F__law_walk]
    simp [b__law_walk, hps]
    have hszr : szW (r + 1) w = 1 + ((partsW w).map (szW r)).sum := rfl
    have key : ∃ rs : List W, (∃ e', sFor (iRange1 (eN lenN [(eVar 3)])) (gVar 4) (sExpr (eMeth "list" extM (eVar 2) [(eCall (F (m + 3) .f__law_walk) [(e2 (getW gdT) (eVar 3) (eVar 4)), (e2 (addW false) (eVar 1) (eN tupN [(eVar 4)]))])]))
        [some w, some (.tup (ws.map W.int)), some (.ref S.length), some (.lst (partsW w)), none] (S ++ [.lst [.tup [.tup (ws.map W.int), w]]]) = .nx [some w, some (.tup (ws.map W.int)), some (.ref S.length), some (.lst (partsW w)), e'] (S ++ [.lst rs])) ∧ rs.length = szW (r + 1) w ∧ ∀ x ∈ rs, WayP x := by
      refine sFor_inv (it := iRange1 (eN lenN [(eVar 3)])) (e := [some w, some (.tup (ws.map W.int)), some (.ref S.length), some (.lst (partsW w)), none]) (S := S ++ [.lst [.tup [.tup (ws.map W.int), w]]]) (J := itR 0 (partsW w).length) (I := fun j e S' => j ≤ (partsW w).length ∧ ∃ rs y, S' = S ++ [.lst rs] ∧ e = [some w, some (.tup (ws.map W.int)), some (.ref S.length), some (.lst (partsW w)), y] ∧ rs.length = 1 + (((partsW w).take j).map (szW r)).sum ∧ ∀ x ∈ rs, WayP x)
        (P := fun q => ∃ rs : List W, (∃ e', q = .nx [some w, some (.tup (ws.map W.int)), some (.ref S.length), some (.lst (partsW w)), e'] (S ++ [.lst rs])) ∧ rs.length = szW (r + 1) w ∧ ∀ x ∈ rs, WayP x) (partsW w).length (by have := fuel_ge; omega)
        (iRange1_ok (n := (partsW w).length) rfl (by omega)) ⟨Nat.zero_le _, [.tup [.tup (ws.map W.int), w]], none, rfl, rfl, by simp, fun x hx => by rw [List.mem_singleton.mp hx]; exact hx0⟩ (fun i e S h => h.1) ?_
      rintro j e S' ⟨hj, rs, y, rfl, rfl, hrl, hrw⟩
      by_cases hjl : j < (partsW w).length
      · obtain ⟨q, hq⟩ : ∃ q, (partsW w)[j]? = some q := ⟨_, List.getElem?_eq_getElem hjl⟩
        have hqm := List.mem_of_getElem? hq
        have hsum := sum_take_le (g := szW r) (bs := partsW w) (j + 1)
        rw [szs_take8 hq] at hsum
        obtain ⟨rs2, e1, e2, e3⟩ := walk_eq r (m + 3) (S ++ [.lst rs]) q (ws ++ [(j : Int)]) (clo_push hS (show lowO _ (Ob.lst rs) = true from hlow hrw)) (by omega) (hpd q hqm) (hp q hqm) (by omega) (by simp; omega)
        have e1 : F (m + 3) .f__law_walk [q, .tup (ws.map W.int ++ [.int j])] (S ++ [.lst rs]) = .ok (.lst rs2) (S ++ [.lst rs]) := by
          rw [List.map_append] at e1; exact e1
        refine .inr ⟨.int j, _, _, by simp [hjl], rfl, ?_⟩
        have hl2 : rs.length + rs2.length ≤ 16777216 := by omega
        have hl3 : ws.length + 1 ≤ 16777216 := by omega
        simp [hq, hl3, e1, acc_ext_lst, hl2]
        refine ⟨hjl, ?_, ?_⟩
        · rw [← List.map_take, szs_take8 hq]; omega
        · rintro x (hx | hx)
          · exact hrw x hx
          · exact e3 x hx
      · refine .inl ⟨itR_ge hjl, rs, ⟨y, rfl⟩, ?_, hrw⟩
        rw [List.take_of_length_le (by omega)] at hrl
        exact hrl
    obtain ⟨rs, ⟨e', he⟩, h1, h2⟩ := key
    refine ⟨rs, ?_, h1, h2⟩
    rw [he]
    simp
    exact cut_lst (J := []) hS (hlow h2)
end Sh

set_option Elab.async false
set_option linter.all false
set_option maxRecDepth 100000
set_option maxHeartbeats 4000000
namespace Sh
open PySem L2
variable {n : Nat} {S J : Store}
/-! ### with -/
section
variable {cur il : List W} {u : W} {i : Nat}
theorem in_at : (S ++ .lst cur :: (J ++ [.lst il]))[S.length + 1 + J.length]? = some (.lst il) := by
  have e : S ++ .lst cur :: (J ++ [.lst il]) = (S ++ .lst cur :: J) ++ [.lst il] := by simp
  have hl : S.length + 1 + J.length = (S ++ Ob.lst cur :: J).length := by simp; omega
  rw [e, hl]
  exact top_get
theorem in_ls : lsW (.ref (S.length + 1 + J.length)) (S ++ .lst cur :: (J ++ [.lst il])) = some il := by simp only [lsW, in_at]
theorem in_len : lenN [.ref (S.length + 1 + J.length)] (S ++ .lst cur :: (J ++ [.lst il])) = some (.int il.length, S ++ .lst cur :: (J ++ [.lst il])) := by simp only [lenN, in_ls]
theorem in_get {i : Int} : getW gdT (.ref (S.length + 1 + J.length)) (.int i) (S ++ .lst cur :: (J ++ [.lst il])) = (atI il i).map fun w => (w, S ++ .lst cur :: (J ++ [.lst il])) := by simp only [getW, in_ls]
theorem in_tupl : tupleN [.ref (S.length + 1 + J.length)] (S ++ .lst cur :: (J ++ [.lst il])) = some (.tup il, S ++ .lst cur :: (J ++ [.lst il])) := by simp only [tupleN, in_ls]
theorem ixN_n {m i : Nat} (h : i < m) : ixN m (i : Int) = some i := by
  unfold ixN
  rw [if_pos (by omega), if_pos (by omega)]
  simp
theorem in_set (h : i < il.length) : setW (.ref (S.length + 1 + J.length)) (.int i) u (S ++ .lst cur :: (J ++ [.lst il])) = some (S ++ .lst cur :: (J ++ [.lst (il.set i u)])) := by
  simp only [setW, in_at, ixN_n h, Option.map_some]
  have e : ∀ x, S ++ .lst cur :: (J ++ [x]) = (S ++ .lst cur :: J) ++ [x] := fun x => by simp
  have hl : S.length + 1 + J.length = (S ++ Ob.lst cur :: J).length := by simp; omega
  rw [e, e, hl, top_set]
theorem row_set (h : i < cur.length) : setW (.ref S.length) (.int i) u (S ++ .lst cur :: J) = some (S ++ .lst (cur.set i u) :: J) := by
  simp only [setW, top_get, ixN_n h, Option.map_some, top_set]
end
/-- garbage -/
def Junk (J : Store) : Prop := ∀ o ∈ J, ∃ ws, o = .lst ws ∧ ∀ w ∈ ws, dtW w = true
theorem junk_push {ws : List W} (h : Junk J) (hw : ∀ w ∈ ws, dtW w = true) : Junk (J ++ [.lst ws]) := fun o ho => by
  rcases List.mem_append.mp ho with ho | ho
  · exact h o ho
  · exact ⟨ws, List.mem_singleton.mp ho, hw⟩
theorem junk_clo {cur : List W} (hS : Clo S) (hc : ∀ w ∈ cur, dtW w = true) (hJ : Junk J) : Clo (S ++ .lst cur :: J) := by
  rw [clo_iff] at hS ⊢
  intro o ho
  rcases List.mem_append.mp ho with ho | ho
  · exact lowO_mono (by simp) (hS o ho)
  · rcases List.mem_cons.mp ho with rfl | ho
    · exact dt_lows (dtWs_all.mpr hc)
    · obtain ⟨ws, rfl, hw⟩ := hJ o ho
      exact dt_lows (dtWs_all.mpr hw)
theorem partL_ok {r c : Nat} {x : W} (hx : OkW x) (hi : itemB (isV r) c x = true) : OkWs (partL c x) ∧ (∀ p ∈ partL c x, isV r p = true) := by
  unfold partL
  unfold itemB at hi
  split
  · rename_i h
    rw [if_pos h] at hi
    exact ⟨⟨by simp, fun p hp => by rw [List.mem_singleton.mp hp]; exact hx⟩, fun p hp => by rw [List.mem_singleton.mp hp]; exact hi⟩
  · rename_i h
    rw [if_neg h] at hi
    split
    · rename_i h2
      rw [if_pos h2] at hi
      unfold rowB at hi
      cases hr : rowW x with
      | none => rw [hr] at hi; cases hi
      | some ps =>
        rw [hr] at hi
        simp only [Bool.and_eq_true, List.all_eq_true] at hi
        exact ⟨hx.row hr, hi.2⟩
    · exact ⟨⟨by simp, by simp⟩, by simp⟩
theorem with_eq {pc : W} (hpc : OkW pc) : ∀ (r n : Nat) (S : Store) (w : W) (vs : List Int), Clo S → r + 3 ≤ n → OkW w → isV r w = true →
    ∃ u, F n .f__law_with [w, .tup (vs.map W.int), pc] S = .ok u S ∧ Le pc u w
  | 0, n, S, w, vs, hS, hn, hw, hv => by cases hv
  | r + 1, n, S, w, vs, hS, hn, hw, hv => by
    obtain ⟨m, rfl⟩ : ∃ m, n = m + 4 := ⟨n - 4, by omega⟩
    rw [F__law_with]
    cases vs with
    | nil =>
      refine ⟨pc, ?_, hpc, by omega, by omega, by omega⟩
      simp [b__law_with]
      exact cut_self hS (dt_low hpc.dt)
    | cons v vs =>
      obtain ⟨k, sh, its, E, hi⟩ := isV_ex hv
      obtain ⟨hs3, hsl⟩ := shape_len E.shp
      have hsz : sh.length ≤ 16777216 := by omega
      have hps := hw.row E.row
      have h3 := fun (S : Store) (i : Nat) => row_get (S := S) (i := i) (G := gdT) E.row
      have h30 := fun S => h3 S 0
      have h3s : ∀ (S : Store) (i : Nat), getW gdT w (.int ((i : Int) + 1)) S = its[i]?.map fun w => (w, S) := fun S i => h3 S (i + 1)
      simp at h30
      have hlist : listN true [w] S = some (.ref S.length, S ++ [.lst (.str k :: its)]) := by
        have hr := E.row
        cases w with
        | tup ws => cases hr; rfl
        | lst ws => cases hr; rfl
        | _ => cases hr
      have hS1 : Clo (S ++ [.lst (.str k :: its)]) := clo_push hS (dt_lows hps.dts)
      have hwl : lenN [.tup (W.int v :: vs.map W.int)] S = some (.int ((vs.length : Int) + 1), S) := by simp
      have hcutw : ∀ S, cutW false (.tup (W.int v :: vs.map W.int)) (some 1) none S = some (.tup (vs.map W.int), S) := fun S => by
        rw [cut_tup]
        congr 3
        unfold cutL
        rw [HT.sIx_none, show (some (1 : Int)) = some ((1 : Nat) : Int) from rfl, HT.sIx_nat]
        simp
        exact List.take_of_length_le (by simp)
      have hsp : F (m + 3) .f__law_shapes [] (S ++ [.lst (.str k :: its)]) = .ok SHD (S ++ [.lst (.str k :: its)]) := shapes_eq (n := m + 2) hS1
      have hgs := get_SHD (S := S ++ [.lst (.str k :: its)]) E.shp
      have hpl : (W.str k :: its).length = sh.length + 1 := by simp [E.len]
      have key : ∃ (cur : List W) (J : Store) (x5 : Int) (x6 x7 : Option W), sFor (iRange1 (eN lenN [(eVar 4)])) (gVar 6) (sSeq (sSet 7 (eN (lstN true) []))
  (sSeq (sIf (tB (e2 eqW (e2 (getW gdT) (eVar 4) (eVar 6)) (eC (.str ⟨#[101]⟩)))) (sSet 7 (eN (lstN true) [(e2 (getW gdT) (eVar 0) (e2 (addW false) (eVar 6) (eC (.int 1))))])) (sIf (tB (e2 (inW gdT) (e2 (getW gdT) (eVar 4) (eVar 6)) (eC (.str ⟨#[108, 100, 97]⟩)))) (sSet 7 (eN (listN true) [(e2 (getW gdT) (eVar 0) (e2 (addW false) (eVar 6) (eC (.int 1))))])) sNil))
  (sSeq (sIf (tAnd (tB (e2 leW (eC (.int 0)) (eVar 5))) (tB (e2 ltW (eVar 5) (eN lenN [(eVar 7)])))) (sSeq (sSetIx setW (eVar 7) (eVar 5) (eCall (F (m + 3) .f__law_with) [(e2 (getW gdT) (eVar 7) (eVar 5)), (eCut false (eVar 1) (some (eC (.int 1))) none), (eVar 2)]))
  (sSetIx setW (eVar 3) (e2 (addW false) (eVar 6) (eC (.int 1))) (e2 (getW gdT) (eN (lstN false) [(eN tupleN [(eVar 7)]), (e2 (getW gdT) (eVar 7) (eC (.int 0)))]) (eN intN [(e2 eqW (e2 (getW gdT) (eVar 4) (eVar 6)) (eC (.str ⟨#[101]⟩)))])))) sNil)
  (sSet 5 (e2 subW (eVar 5) (eN lenN [(eVar 7)]))))))
          [some w, some (.tup (W.int v :: vs.map W.int)), some pc, some (.ref S.length), some (.str sh), some (.int v), none, none] (S ++ [.lst (.str k :: its)])
          = .nx [some w, some (.tup (W.int v :: vs.map W.int)), some pc, some (.ref S.length), some (.str sh), some (.int x5), x6, x7] (S ++ .lst cur :: J) ∧ OkWs cur ∧ Junk J ∧ wtWs cur ≤ wtWs (.str k :: its) + wtW pc ∧ dpWs cur ≤ dpWs (.str k :: its) + dpW pc ∧ cnWs cur ≤ cnWs (.str k :: its) + cnW pc := by
        refine sFor_inv (it := iRange1 (eN lenN [(eVar 4)])) (g := gVar 6) (J := itR 0 sh.length) (e := [some w, some (.tup (W.int v :: vs.map W.int)), some pc, some (.ref S.length), some (.str sh), some (.int v), none, none]) (S := S ++ [.lst (.str k :: its)])
          (I := fun i e S' => i ≤ sh.length ∧ ∃ (cur : List W) (J : Store) (x5 : Int) (x6 x7 : Option W), e = [some w, some (.tup (W.int v :: vs.map W.int)), some pc, some (.ref S.length), some (.str sh), some (.int x5), x6, x7] ∧ S' = S ++ .lst cur :: J ∧ cur.length = (W.str k :: its).length ∧ OkWs cur ∧ Junk J ∧
            (cur = .str k :: its ∨ (x5 < 0 ∧ wtWs cur ≤ wtWs (.str k :: its) + wtW pc ∧ dpWs cur ≤ dpWs (.str k :: its) + dpW pc ∧ cnWs cur ≤ cnWs (.str k :: its) + cnW pc)))
          (P := fun q => ∃ (cur : List W) (J : Store) (x5 : Int) (x6 x7 : Option W), q = .nx [some w, some (.tup (W.int v :: vs.map W.int)), some pc, some (.ref S.length), some (.str sh), some (.int x5), x6, x7] (S ++ .lst cur :: J) ∧ OkWs cur ∧ Junk J ∧ wtWs cur ≤ wtWs (.str k :: its) + wtW pc ∧ dpWs cur ≤ dpWs (.str k :: its) + dpW pc ∧ cnWs cur ≤ cnWs (.str k :: its) + cnW pc)
          sh.length (by have := fuel_ge; omega) (iRange1_ok (n := sh.length) (by simp [hsz]) hsz) ⟨Nat.zero_le _, _, [], v, none, none, rfl, rfl, rfl, hps, (fun o ho => by cases ho), .inl rfl⟩ (fun i e S h => h.1) ?_
        rintro i e S' ⟨hil, cur, J, x5, x6, x7, rfl, rfl, hcl, hcur, hJ, hor⟩
        by_cases hlt : i < sh.length
        · obtain ⟨c, hc⟩ : ∃ c, sh.cps.toList[i]? = some c := ⟨_, List.getElem?_eq_getElem (by rw [len_cps]; exact hlt)⟩
          obtain ⟨x, hx⟩ : ∃ x, its[i]? = some x := ⟨_, List.getElem?_eq_getElem (by rw [E.len]; exact hlt)⟩
          have hxm : x ∈ W.str k :: its := List.mem_cons_of_mem _ (List.mem_of_getElem? hx)
          have hxo := hps.2 x hxm
          have hzi : (sh.cps.toList.zip its)[i]? = some (c, x) := by
            rw [List.getElem?_zip_eq_some]; exact ⟨hc, hx⟩
          have hci := hi (c, x) (List.mem_of_getElem? hzi)
          obtain ⟨hilo, hilv⟩ := partL_ok hxo hci
          have hch : ∀ S, getW gdT (.str sh) (.int i) S = some (chrW c, S) := fun S => by
            rw [get_str, if_pos (show sh.length ≤ sizeLine from hsz), atI_n, hc]; rfl
          have hxg : ∀ S, getW gdT w (.int ((i : Int) + 1)) S = some (x, S) := fun S => by rw [h3s, hx]; rfl
          have hAB : ∀ k : SM, ∃ J' : Store, Junk J' ∧ sSeq (sSet 7 (eN (lstN true) [])) (sSeq (sIf (tB (e2 eqW (e2 (getW gdT) (eVar 4) (eVar 6)) (eC (.str ⟨#[101]⟩)))) (sSet 7 (eN (lstN true) [(e2 (getW gdT) (eVar 0) (e2 (addW false) (eVar 6) (eC (.int 1))))])) (sIf (tB (e2 (inW gdT) (e2 (getW gdT) (eVar 4) (eVar 6)) (eC (.str ⟨#[108, 100, 97]⟩)))) (sSet 7 (eN (listN true) [(e2 (getW gdT) (eVar 0) (e2 (addW false) (eVar 6) (eC (.int 1))))])) sNil)) k)
              [some w, some (.tup (W.int v :: vs.map W.int)), some pc, some (.ref S.length), some (.str sh), some (.int x5), some (.int i), x7] (S ++ .lst cur :: J)
              = k [some w, some (.tup (W.int v :: vs.map W.int)), some pc, some (.ref S.length), some (.str sh), some (.int x5), some (.int i), some (.ref (S.length + 1 + J'.length))] (S ++ .lst cur :: (J' ++ [.lst (partL c x)])) := fun k => by
            have hA : sSet 7 (eN (lstN true) []) [some w, some (.tup (W.int v :: vs.map W.int)), some pc, some (.ref S.length), some (.str sh), some (.int x5), some (.int i), x7] (S ++ .lst cur :: J) = .nx [some w, some (.tup (W.int v :: vs.map W.int)), some pc, some (.ref S.length), some (.str sh), some (.int x5), some (.int i), some (.ref (S.length + 1 + J.length))] (S ++ .lst cur :: (J ++ [.lst []])) := by
              simp
              omega
            by_cases h101 : c = 101
            · refine ⟨J ++ [.lst []], junk_push hJ (by simp), ?_⟩
              have hp1 : partL c x = [x] := by simp [partL, h101]
              rw [sSeq_ap, hA, RS.seq_nx, sSeq_ap, hp1]
              have : S.length + (J.length + 1 + 1) = S.length + 1 + (J.length + 1) := by omega
              simp [-get_str, hch, hxg, h101, this]
            · by_cases hrow : c = 108 ∨ c = 100 ∨ c = 97
              · refine ⟨J ++ [.lst []], junk_push hJ (by simp), ?_⟩
                obtain ⟨ys, hy, hy6⟩ := E.rows _ (List.mem_of_getElem? hzi) hrow
                have hp1 : partL c x = ys := by
                  unfold partL
                  rw [if_neg h101, if_pos hrow, hy]; rfl
                have hly : ∀ S, listN true [x] S = some (.ref S.length, S ++ [.lst ys]) := fun S => by
                  cases x with
                  | tup ws => cases hy; rfl
                  | lst ws => cases hy; rfl
                  | _ => cases hy
                rw [sSeq_ap, hA, RS.seq_nx, sSeq_ap, hp1]
                have : S.length + (J.length + 1 + 1) = S.length + 1 + (J.length + 1) := by omega
                simp [-get_str, hch, hxg, h101, hrow, hly, this]
              · refine ⟨J, hJ, ?_⟩
                have hp1 : partL c x = [] := by
                  unfold partL
                  rw [if_neg h101, if_neg hrow]
                rw [sSeq_ap, hA, RS.seq_nx, sSeq_ap, hp1]
                simp [-get_str, hch, h101, hrow]
          refine .inr ⟨.int i, [some w, some (.tup (W.int v :: vs.map W.int)), some pc, some (.ref S.length), some (.str sh), some (.int x5), some (.int i), x7], S ++ .lst cur :: J, by rw [itR_lt hlt]; simp, rfl, ?_⟩
          obtain ⟨J', hJ', hab⟩ := hAB (sSeq (sIf (tAnd (tB (e2 leW (eC (.int 0)) (eVar 5))) (tB (e2 ltW (eVar 5) (eN lenN [(eVar 7)])))) (sSeq (sSetIx setW (eVar 7) (eVar 5) (eCall (F (m + 3) .f__law_with) [(e2 (getW gdT) (eVar 7) (eVar 5)), (eCut false (eVar 1) (some (eC (.int 1))) none), (eVar 2)]))
  (sSetIx setW (eVar 3) (e2 (addW false) (eVar 6) (eC (.int 1))) (e2 (getW gdT) (eN (lstN false) [(eN tupleN [(eVar 7)]), (e2 (getW gdT) (eVar 7) (eC (.int 0)))]) (eN intN [(e2 eqW (e2 (getW gdT) (eVar 4) (eVar 6)) (eC (.str ⟨#[101]⟩)))])))) sNil)
  (sSet 5 (e2 subW (eVar 5) (eN lenN [(eVar 7)]))))
          rw [hab]
          have hil0 : ∀ w ∈ partL c x, dtW w = true := fun w hw => (hilo.2 w hw).dt
          by_cases hcond : 0 ≤ x5 ∧ x5 < ((partL c x).length : Nat)
          · obtain ⟨mm, rfl⟩ : ∃ mm : Nat, x5 = mm := ⟨x5.toNat, by omega⟩
            have hmm : mm < (partL c x).length := by omega
            have hcur2 : cur = .str k :: its := by
              rcases hor with h | h
              · exact h
              · omega
            subst hcur2
            obtain ⟨p, hp⟩ : ∃ p, (partL c x)[mm]? = some p := ⟨_, List.getElem?_eq_getElem hmm⟩
            have hpm := List.mem_of_getElem? hp
            have hclo : Clo (S ++ .lst (.str k :: its) :: (J' ++ [.lst (partL c x)])) := junk_clo hS (fun w hw => (hps.2 w hw).dt) (junk_push hJ' hil0)
            obtain ⟨u, hu, hle⟩ := with_eq hpc r (m + 3) _ p vs hclo (by omega) (hilo.2 p hpm) (hilv p hpm)
            have hset1 := in_set (S := S) (cur := .str k :: its) (J := J') (il := partL c x) (u := u) hmm
            have hilo2 : OkWs ((partL c x).set mm u) := hilo.set hle.ok
            -- what goes into the row
            obtain ⟨val, hval, hvle⟩ : ∃ val, (∀ S2, e2 (getW gdT) (eN (lstN false) [(eN tupleN [(eVar 7)]), (e2 (getW gdT) (eVar 7) (eC (.int 0)))]) (eN intN [(e2 eqW (e2 (getW gdT) (eVar 4) (eVar 6)) (eC (.str ⟨#[101]⟩)))])
                [some w, some (.tup (W.int v :: vs.map W.int)), some pc, some (.ref S.length), some (.str sh), some (.int mm), some (.int i), some (.ref (S.length + 1 + J'.length))] (S ++ .lst S2 :: (J' ++ [.lst ((partL c x).set mm u)])) = .ok val (S ++ .lst S2 :: (J' ++ [.lst ((partL c x).set mm u)]))) ∧ Le pc val x := by
              have hg0 : ∀ S2 y, ((partL c x).set mm u)[0]? = some y → getW gdT (.ref (S.length + 1 + J'.length)) (.int 0) (S ++ .lst S2 :: (J' ++ [.lst ((partL c x).set mm u)])) = some (y, S ++ .lst S2 :: (J' ++ [.lst ((partL c x).set mm u)])) := fun S2 y hy => by
                rw [in_get, atI_0, hy]; rfl
              obtain ⟨y, hy⟩ : ∃ y, ((partL c x).set mm u)[0]? = some y := ⟨_, List.getElem?_eq_getElem (by rw [List.length_set]; omega)⟩
              by_cases h101 : c = 101
              · have hp1 : partL c x = [x] := by simp [partL, h101]
                have hm0 : mm = 0 := by rw [hp1] at hmm; simpa using hmm
                have hpx : p = x := by rw [hp1, hm0] at hp; simpa using hp.symm
                have hyu : y = u := by rw [hp1, hm0] at hy; simpa using hy.symm
                refine ⟨u, fun S2 => ?_, by rw [← hpx]; exact hle⟩
                have e1 := in_tupl (S := S) (cur := S2) (J := J') (il := (partL c x).set mm u)
                have e2' := hg0 S2 y hy
                rw [h101] at e1 e2'
                simp [-get_str, e1, e2', hch, h101, hyu]
              · have hrow : c = 108 ∨ c = 100 ∨ c = 97 := by
                  apply Classical.byContradiction
                  intro hno
                  have : partL c x = [] := by unfold partL; rw [if_neg h101, if_neg hno]
                  rw [this] at hmm
                  simp at hmm
                obtain ⟨ys, hys, hy6⟩ := E.rows _ (List.mem_of_getElem? hzi) hrow
                have hp1 : partL c x = ys := by
                  unfold partL
                  rw [if_neg h101, if_pos hrow, hys]; rfl
                refine ⟨.tup ((partL c x).set mm u), fun S2 => ?_, hilo2.tup, ?_, ?_, ?_⟩
                · have e1 := in_tupl (S := S) (cur := S2) (J := J') (il := (partL c x).set mm u)
                  have e2' := hg0 S2 y hy
                  simp [-get_str, e1, e2', hch, h101]
                · have := wt_set hle hp
                  rw [row_wt hys]
                  simp only [wtW]
                  rw [hp1] at this ⊢
                  omega
                · have := dp_set hle hp
                  rw [row_dp hys]
                  simp only [dpW]
                  rw [hp1] at this ⊢
                  omega
                · have := cn_set hle hp
                  rw [row_cn hys]
                  simp only [cnW]
                  rw [hp1] at this ⊢
                  omega
            have hrl : i + 1 < (W.str k :: its).length := by rw [hpl]; omega
            have hset2 := row_set (S := S) (cur := .str k :: its) (J := J' ++ [.lst ((partL c x).set mm u)]) (u := val) hrl
            have hset2 : setW (.ref S.length) (.int ((i : Int) + 1)) val (S ++ .lst (.str k :: its) :: (J' ++ [.lst ((partL c x).set mm u)])) = some (S ++ .lst ((W.str k :: its).set (i + 1) val) :: (J' ++ [.lst ((partL c x).set mm u)])) := hset2
            have hx1 : (W.str k :: its)[i + 1]? = some x := by simpa using hx
            have c0 : (decide ((0 : Int) ≤ (mm : Int))) = true := by simp
            have c1 : (decide ((mm : Int) < ((partL c x).length : Nat))) = true := by simp; omega
            have hgp : ∀ S2, getW gdT (.ref (S.length + 1 + J'.length)) (.int mm) (S ++ .lst S2 :: (J' ++ [.lst (partL c x)])) = some (p, S ++ .lst S2 :: (J' ++ [.lst (partL c x)])) := fun S2 => by rw [in_get, atI_n, hp]; rfl
            have hin2 := fun S2 => in_len (S := S) (cur := S2) (J := J') (il := (partL c x).set mm u)
            rw [sSeq_ap, sIf_ap, tAnd_ap, tB_ap, e2_ap]
            simp only [eC_ap, eVar_ap, List.getElem?_cons_zero, List.getElem?_cons_succ, R.bind_ok, le_int, c0, lift_some, bol_bl, liftB_some, if_true, tB_ap, e2_ap, eN_ap, evs_cons, evs_nil, in_len, lt_int, c1, R.thn_ok]
            rw [sSeq_ap, sSetIx_ap, eCall_ap]
            simp only [evs_cons, evs_nil, e2_ap, eVar_ap, eCut_ap, evO_some, evO_none, eC_ap, List.getElem?_cons_zero, List.getElem?_cons_succ, R.bind_ok, hgp, lift_some, hcutw, hu, R.thn_ok, hset1, RS.seq_nx]
            rw [sSetIx_ap, hval]
            simp only [R.thn_ok, eVar_ap, List.getElem?_cons_zero, List.getElem?_cons_succ, e2_ap, R.bind_ok, eC_ap, add_int, lift_some, hset2, RS.seq_nx, sSet_ap, eN_ap, evs_cons, evs_nil, hin2, sub_int, List.set_cons_zero, List.set_cons_succ]
            refine ⟨by omega, (W.str k :: its).set (i + 1) val, J' ++ [.lst ((partL c x).set mm u)], _, _, _, rfl, rfl, by rw [List.length_set], hps.set hvle.ok, junk_push hJ' (fun w hw => (hilo2.2 w hw).dt), .inr ⟨?_, wt_set hvle hx1, dp_set hvle hx1, cn_set hvle hx1⟩⟩
            rw [List.length_set]
            omega
          · have hcb : (decide ((0 : Int) ≤ x5) && decide (x5 < ((partL c x).length : Nat))) = false := by
              rw [Bool.eq_false_iff]
              simp only [ne_eq, Bool.and_eq_true, decide_eq_true_eq]
              exact hcond
            have hin2 := fun S2 => in_len (S := S) (cur := S2) (J := J') (il := partL c x)
            rw [sSeq_ap, sIf_ap, tAnd_ap, tB_ap, e2_ap]
            simp only [eC_ap, eVar_ap, List.getElem?_cons_zero, List.getElem?_cons_succ, R.bind_ok, le_int, lift_some, bol_bl, liftB_some, tB_ap, e2_ap, eN_ap, evs_cons, evs_nil, hin2, lt_int]
            have hfin : ∀ (b1 b2 : Bool) (A : Store), (b1 && b2) = false → (if b1 = true then R.ok b2 A else R.ok false A) = R.ok false A := fun b1 b2 A h => by cases b1 <;> cases b2 <;> first | rfl | cases h
            rw [hfin _ _ _ hcb]
            simp only [R.thn_ok, Bool.false_eq_true, if_false, sNil_ap, RS.seq_nx, sSet_ap, e2_ap, eVar_ap, eN_ap, evs_cons, evs_nil, List.getElem?_cons_zero, List.getElem?_cons_succ, R.bind_ok, hin2, sub_int, lift_some, List.set_cons_zero, List.set_cons_succ]
            refine ⟨by omega, cur, J' ++ [.lst (partL c x)], _, _, _, rfl, rfl, hcl, hcur, junk_push hJ' hil0, ?_⟩
            rcases hor with h | ⟨h1, h2, h3, h4⟩
            · exact .inl h
            · exact .inr ⟨by omega, h2, h3, h4⟩
        · have : i = sh.length := by omega
          refine .inl ⟨itR_ge hlt, cur, J, x5, x6, x7, rfl, hcur, hJ, ?_⟩
          rcases hor with rfl | h
          · exact ⟨by omega, by omega, by omega⟩
          · exact h.2
      obtain ⟨cur, J, x5, x6, x7, h1, h2, h3', h4, h5, h6⟩ := key
      have hrw := row_wt E.row
      have hrd := row_dp E.row
      have hrc := row_cn E.row
      refine ⟨.tup cur, ?_, h2.tup, by simp only [wtW]; omega, by simp only [dpW]; omega, by simp only [cnW]; omega⟩
      simp [b__law_with, hlist, hsp, h30, hgs]
      rw [if_neg (by omega), h1]
      have ht : tupleN [.ref S.length] (S ++ .lst cur :: J) = some (.tup cur, S ++ .lst cur :: J) := by simp only [tupleN, lsW, top_get]
      simp [ht]
      exact cut_low hS (dt_low (h2.tup).dt)
end Sh

set_option Elab.async false
set_option linter.all false
set_option maxRecDepth 100000
set_option maxHeartbeats 4000000
namespace Sh
open PySem L2
variable {n : Nat} {S J : Store}
/-! ### what is well shaped is data, and light -/
def cntC (c : Nat) : Nat := if c = 101 then 1 else if c = 108 then 4 else if c = 100 then 6 else if c = 97 then 3 else 0
def smallS (x : Str) : Bool := decide (x.length ≤ 20) && x.cps.toList.all fun c => decide (c < 1000)
theorem shapes_small : ∀ p ∈ shapes, smallS p.1 = true ∧ (p.2.cps.toList.map cntC).sum ≤ 6 := by decide +kernel
theorem ops_small : (∀ x ∈ opsL, smallS x = true) ∧ ∀ x ∈ testsL, smallS x = true := by decide +kernel
/-- a plain item -/
structure PlW (w : W) : Prop where
  ok : OkW w
  wt : wtW w ≤ 204
  dp : dpW w = 0
theorem small_pl {x : Str} (h : smallS x = true) : PlW (.str x) := by
  simp only [smallS, Bool.and_eq_true, decide_eq_true_eq] at h
  refine ⟨⟨?_, ?_⟩, ?_, rfl⟩
  · simp only [dtW, decide_eq_true_eq]; omega
  · exact h.2
  · simp only [wtW]; omega
theorem int_pl {lo hi : Int} {w : W} (h : intB lo hi w = true) (h1 : -1000 ≤ lo) (h2 : hi ≤ 1000) : PlW w := by
  cases w with
  | int i =>
    simp only [intB, Bool.and_eq_true, decide_eq_true_eq] at h
    refine ⟨⟨?_, rfl⟩, by simp [wtW], rfl⟩
    simp [dtW]
    omega
  | _ => cases h
theorem name_small {w : W} (h : nameB w = true) : ∃ x, w = .str x ∧ smallS x = true := by
  cases w with
  | str x =>
    refine ⟨x, rfl, ?_⟩
    simp only [nameB, Bool.and_eq_true, decide_eq_true_eq] at h
    simp only [smallS, Bool.and_eq_true, decide_eq_true_eq, List.all_eq_true]
    refine ⟨by omega, fun c hc => ?_⟩
    have := List.all_eq_true.mp h.2.1 c hc
    simp only [letterB, Bool.and_eq_true, decide_eq_true_eq] at this
    omega
  | _ => cases h
theorem written_small {w : W} (h : writtenB w = true) : ∃ x, w = .str x ∧ smallS x = true := by
  cases w with
  | str x =>
    refine ⟨x, rfl, ?_⟩
    simp only [writtenB, Bool.and_eq_true, decide_eq_true_eq] at h
    simp only [smallS, Bool.and_eq_true, decide_eq_true_eq, List.all_eq_true]
    refine ⟨by omega, fun c hc => ?_⟩
    have := List.all_eq_true.mp h.2 c hc
    simp only [signB, Bool.and_eq_true, decide_eq_true_eq] at this
    omega
  | _ => cases h
theorem word_pl {xs : List Str} {w : W} (h : wordB xs w = true) (hx : ∀ x ∈ xs, smallS x = true) : PlW w := by
  cases w with
  | str x =>
    simp only [wordB, decide_eq_true_eq] at h
    exact small_pl (hx x h)
  | _ => cases h
theorem plain_pl {c : Nat} {w : W} (h : plainB c w = true) : PlW w := by
  unfold plainB at h
  repeat' split at h
  · exact int_pl h (by omega) (by omega)
  · exact int_pl h (by omega) (by omega)
  · obtain ⟨x, rfl, hx⟩ := written_small h; exact small_pl hx
  · obtain ⟨x, rfl, hx⟩ := name_small h; exact small_pl hx
  · exact word_pl h ops_small.1
  · exact word_pl h ops_small.2
theorem rowB_inv {f : W → Bool} {c : Nat} {w : W} (h : rowB f c w = true) : ∃ ps, rowW w = some ps ∧ ps.length ≤ 6 ∧ (c = 108 ∨ c = 100 ∨ c = 97 → ps.length ≤ cntC c) ∧ ∀ p ∈ ps, f p = true := by
  unfold rowB at h
  cases hr : rowW w with
  | none => rw [hr] at h; cases h
  | some ps =>
    rw [hr] at h
    simp only [Bool.and_eq_true, decide_eq_true_eq, List.all_eq_true] at h
    refine ⟨ps, rfl, ?_, fun hc => ?_, h.2⟩
    · have := h.1.2
      split at this
      · exact this
      · split at this <;> omega
    · have := h.1.2
      rcases hc with rfl | rfl | rfl
      · exact this
      · exact this
      · exact this
theorem rowOk {w : W} {ps : List W} (hr : rowW w = some ps) (h : OkWs ps) : OkW w := by
  cases w with
  | tup ws => cases hr; exact h.tup
  | lst ws => cases hr; exact h.lst
  | _ => cases hr
theorem all_zip {cs : List Nat} {its : List W} (hl : its.length = cs.length) {P : W → Prop} (h : ∀ p ∈ cs.zip its, P p.2) : ∀ x ∈ its, P x := fun x hx => by
  obtain ⟨i, hi⟩ := List.getElem?_of_mem hx
  have hil := (List.getElem?_eq_some_iff.mp hi).1
  obtain ⟨c, hc⟩ : ∃ c, cs[i]? = some c := ⟨_, List.getElem?_eq_getElem (by omega)⟩
  exact h (c, x) (List.mem_of_getElem? (List.getElem?_zip_eq_some.mpr ⟨hc, hi⟩))
theorem isV_ok : ∀ (r : Nat) (w : W), isV r w = true → OkW w
  | 0, w, h => by cases h
  | r + 1, w, h => by
    obtain ⟨k, sh, its, E, hi⟩ := isV_ex h
    have hk := small_pl (shapes_small _ (shape_mem E.shp)).1
    obtain ⟨hs3, _⟩ := shape_len E.shp
    refine rowOk E.row ⟨by have := E.len; simp only [List.length_cons]; omega, fun x hx => ?_⟩
    rcases List.mem_cons.mp hx with rfl | hx
    · exact hk.ok
    · refine all_zip (cs := sh.cps.toList) (its := its) (by rw [E.len]; rfl) (P := OkW) (fun p hp => ?_) x hx
      have := hi p hp
      unfold itemB at this
      split at this
      · exact isV_ok r _ this
      · split at this
        · obtain ⟨ps, h1, h2, _, h3⟩ := rowB_inv this
          exact rowOk h1 ⟨by omega, fun q hq => isV_ok r q (h3 q hq)⟩
        · exact (plain_pl this).ok
theorem isV_dp : ∀ (r : Nat) (w : W), isV r w = true → dpW w ≤ 2 * r
  | 0, w, h => by cases h
  | r + 1, w, h => by
    obtain ⟨k, sh, its, E, hi⟩ := isV_ex h
    rw [row_dp E.row]
    have : dpWs (.str k :: its) ≤ 2 * r + 1 := dps_le fun x hx => by
      rcases List.mem_cons.mp hx with rfl | hx
      · simp [dpW]
      · refine all_zip (cs := sh.cps.toList) (its := its) (by rw [E.len]; rfl) (P := fun x => dpW x ≤ 2 * r + 1) (fun p hp => ?_) x hx
        have := hi p hp
        unfold itemB at this
        split at this
        · have := isV_dp r _ this; omega
        · split at this
          · obtain ⟨ps, h1, h2, _, h3⟩ := rowB_inv this
            rw [row_dp h1]
            have := dps_le (ws := ps) (d := 2 * r) fun q hq => isV_dp r q (h3 q hq)
            omega
          · rw [(plain_pl this).dp]; omega
    omega
theorem sum_flat {α : Type} {g : W → Nat} {f : α → List W} : ∀ {xs : List α}, ((xs.flatMap f).map g).sum = (xs.map fun x => ((f x).map g).sum).sum
  | [] => rfl
  | x :: xs => by rw [List.flatMap_cons, List.map_append, List.sum_append, List.map_cons, List.sum_cons, sum_flat (xs := xs)]
theorem sz_parts {r : Nat} {w : W} {k sh : Str} {its : List W} (E : ExW w k sh its) : szW (r + 1) w = 1 + ((sh.cps.toList.zip its).map fun p => ((partL p.1 p.2).map (szW r)).sum).sum := by
  simp only [szW]
  unfold partsW
  rw [E.row]
  simp only [E.shp]
  rw [sum_flat]
theorem wts_le {g : W → Nat} : ∀ {ps : List W}, (∀ p ∈ ps, wtW p + 2 ≤ g p) → wtWs ps ≤ (ps.map g).sum
  | [], _ => by simp [wtWs]
  | p :: ps, h => by
    have h1 := h p (by simp)
    have h2 := wts_le (ps := ps) fun q hq => h q (by simp [hq])
    simp only [wtWs, List.map_cons, List.sum_cons]
    omega
theorem zip_wt {g : W → Nat} : ∀ {cs : List Nat} {its : List W}, its.length = cs.length → (∀ p ∈ cs.zip its, wtW p.2 ≤ 204 + ((partL p.1 p.2).map g).sum) → wtWs its ≤ 206 * cs.length + ((cs.zip its).map fun p => ((partL p.1 p.2).map g).sum).sum
  | [], [], _, _ => by simp [wtWs]
  | c :: cs, x :: its, hl, h => by
    have h1 := h (c, x) (by simp)
    have h2 := zip_wt (cs := cs) (its := its) (by simpa using hl) fun p hp => h p (by simp [hp])
    simp only [wtWs, List.zip_cons_cons, List.map_cons, List.sum_cons, List.length_cons] at h1 ⊢
    omega
theorem sum_mul {g : W → Nat} {B : Nat} : ∀ {xs : List W}, (xs.map fun x => B * g x).sum = B * (xs.map g).sum
  | [] => rfl
  | x :: xs => by simp only [List.map_cons, List.sum_cons, sum_mul (xs := xs), Nat.mul_add]
theorem isV_wt : ∀ (r : Nat) (w : W), isV r w = true → wtW w + 2 ≤ 1000 * szW r w
  | 0, w, h => by cases h
  | r + 1, w, h => by
    obtain ⟨k, sh, its, E, hi⟩ := isV_ex h
    have hk : wtW (.str k) ≤ 204 := (small_pl (shapes_small _ (shape_mem E.shp)).1).wt
    obtain ⟨hs3, _⟩ := shape_len E.shp
    rw [sz_parts E, row_wt E.row]
    have hz := zip_wt (g := fun x => 1000 * szW r x) (cs := sh.cps.toList) (its := its) (by rw [E.len]; rfl) (fun p hp => by
      have := hi p hp
      unfold itemB at this
      unfold partL
      split at this
      · rename_i hc
        rw [if_pos hc]
        have := isV_wt r _ this
        simp only [List.map_cons, List.map_nil, List.sum_cons, List.sum_nil]
        omega
      · rename_i hc
        rw [if_neg hc]
        split at this
        · rename_i hc2
          rw [if_pos hc2]
          obtain ⟨ps, h1, h2, _, h3⟩ := rowB_inv this
          rw [row_wt h1, h1]
          have := wts_le (ps := ps) (g := fun x => 1000 * szW r x) fun q hq => isV_wt r q (h3 q hq)
          simp only [Option.getD_some]
          omega
        · have := (plain_pl this).wt
          omega)
    have e : ((sh.cps.toList.zip its).map fun p => ((partL p.1 p.2).map (fun x => 1000 * szW r x)).sum).sum = 1000 * ((sh.cps.toList.zip its).map fun p => ((partL p.1 p.2).map (szW r)).sum).sum := by
      induction sh.cps.toList.zip its with
      | nil => rfl
      | cons p ps ih => rw [List.map_cons, List.sum_cons, List.map_cons, List.sum_cons, ih, sum_mul, Nat.mul_add]
    rw [e] at hz
    rw [len_cps] at hz
    simp only [wtWs]
    omega
theorem isV_mono : ∀ (r : Nat) (w : W), isV r w = true → isV (r + 1) w = true ∧ szW (r + 1) w = szW r w
  | 0, w, h => by cases h
  | r + 1, w, h => by
    obtain ⟨k, sh, its, E, hi⟩ := isV_ex h
    have hp : ∀ p ∈ sh.cps.toList.zip its, itemB (isV (r + 1)) p.1 p.2 = true ∧ ((partL p.1 p.2).map (szW (r + 1))).sum = ((partL p.1 p.2).map (szW r)).sum := fun p hp => by
      have := hi p hp
      unfold itemB at this ⊢
      unfold partL
      split at this
      · rename_i hc
        rw [if_pos hc, if_pos hc]
        have := isV_mono r _ this
        refine ⟨this.1, ?_⟩
        simp only [List.map_cons, List.map_nil, List.sum_cons, List.sum_nil, this.2]
      · rename_i hc
        rw [if_neg hc, if_neg hc]
        split at this
        · rename_i hc2
          rw [if_pos hc2, if_pos hc2]
          unfold rowB at this ⊢
          cases hr : rowW p.2 with
          | none => rw [hr] at this; cases this
          | some ps =>
            rw [hr] at this
            simp only [Bool.and_eq_true, List.all_eq_true] at this ⊢
            refine ⟨⟨this.1, fun q hq => (isV_mono r q (this.2 q hq)).1⟩, ?_⟩
            simp only [Option.getD_some]
            congr 1
            exact List.map_congr_left fun q hq => (isV_mono r q (this.2 q hq)).2
        · rename_i hc2
          rw [if_neg hc2, if_neg hc2]
          exact ⟨this, rfl⟩
    refine ⟨?_, ?_⟩
    · unfold isV
      rw [E.row]
      simp only [E.shp, E.len, decide_true, Bool.true_and, List.all_eq_true]
      exact fun p hp' => (hp p hp').1
    · rw [sz_parts E, sz_parts E]
      congr 1
      congr 1
      exact List.map_congr_left fun p hp' => (hp p hp').2
end Sh

set_option Elab.async false
set_option linter.all false
set_option maxRecDepth 100000
set_option maxHeartbeats 4000000
namespace Sh
open PySem L2
variable {n : Nat} {S J : Store}
theorem isW_ex {r : Nat} {kept : Bool} {w : W} (h : isW (r + 1) kept w = true) : ∃ k sh its, ExW w k sh its ∧ ∀ p ∈ sh.cps.toList.zip its, itemB (isW r (kept || decide (k = "keep"))) p.1 p.2 = true := by
  unfold isW at h
  split at h
  · rename_i k its hr
    split at h
    · rename_i sh hs
      simp only [Bool.and_eq_true, decide_eq_true_eq, List.all_eq_true] at h
      refine ⟨k, sh, its, ⟨hr, hs, h.1.2, fun p hp hc => ?_⟩, fun p hp => h.2 p hp⟩
      have := h.2 p hp
      have h101 : ¬ p.1 = 101 := by omega
      unfold itemB at this
      rw [if_neg h101, if_pos hc] at this
      unfold rowB at this
      cases hx : rowW p.2 with
      | none => rw [hx] at this; cases this
      | some ys =>
        rw [hx] at this
        simp only [Bool.and_eq_true, decide_eq_true_eq] at this
        refine ⟨ys, rfl, ?_⟩
        have := this.1.2
        split at this
        · exact this
        · split at this <;> omega
    · cases h
  · cases h
theorem parts_isW {r : Nat} {kept : Bool} {w : W} (h : isW (r + 1) kept w = true) : ∃ kept', ∀ p ∈ partsW w, isW r kept' p = true := by
  obtain ⟨k, sh, its, E, hi⟩ := isW_ex h
  refine ⟨kept || decide (k = "keep"), fun p hp => ?_⟩
  unfold partsW at hp
  rw [E.row] at hp
  simp only [E.shp] at hp
  obtain ⟨q, hq, hp⟩ := List.mem_flatMap.mp hp
  have hi' := hi q hq
  unfold partL at hp
  unfold itemB at hi'
  split at hp
  · rename_i h1
    rw [if_pos h1] at hi'
    rw [List.mem_singleton.mp hp]; exact hi'
  · rename_i h1
    rw [if_neg h1] at hi'
    split at hp
    · rename_i h2
      rw [if_pos h2] at hi'
      unfold rowB at hi'
      cases hx : rowW q.2 with
      | none => rw [hx] at hp; cases hp
      | some ys =>
        rw [hx] at hi' hp
        simp only [Bool.and_eq_true, List.all_eq_true] at hi'
        exact hi'.2 p hp
    · cases hp
/-- more room -/
theorem itemB_mono {f g : W → Bool} (h : ∀ w, f w = true → g w = true) {c : Nat} {w : W} (hi : itemB f c w = true) : itemB g c w = true := by
  unfold itemB at hi ⊢
  split
  · rename_i hc; rw [if_pos hc] at hi; exact h w hi
  · rename_i hc
    rw [if_neg hc] at hi
    split
    · rename_i hc2
      rw [if_pos hc2] at hi
      unfold rowB at hi ⊢
      cases hr : rowW w with
      | none => rw [hr] at hi; cases hi
      | some ps =>
        rw [hr] at hi
        simp only [Bool.and_eq_true, List.all_eq_true] at hi ⊢
        exact ⟨hi.1, fun x hx => h x (hi.2 x hx)⟩
    · rename_i hc2; rw [if_neg hc2] at hi; exact hi
theorem isW_step : ∀ {r : Nat} {kept : Bool} {w : W}, isW r kept w = true → isW (r + 1) kept w = true
  | 0, _, _, h => by cases h
  | r + 1, kept, w, h => by
    unfold isW at h ⊢
    split at h
    · rename_i k its hr
      split at h
      · rename_i sh hs
        simp only [Bool.and_eq_true, List.all_eq_true] at h ⊢
        exact ⟨h.1, fun p hp => itemB_mono (fun w hw => isW_step hw) (h.2 p hp)⟩
      · cases h
    · cases h
theorem isW_mono {r m : Nat} {kept : Bool} {w : W} (h : isW r kept w = true) (hm : r ≤ m) : isW m kept w = true := by
  induction m with
  | zero => have : r = 0 := by omega
            subst this; exact h
  | succ m ih =>
    rcases Nat.lt_or_ge m r with h2 | h2
    · have : r = m + 1 := by omega
      subst this; exact h
    · exact isW_step (ih h2)
/-- an expression is well shaped -/
theorem isW_isV : ∀ {r : Nat} {kept : Bool} {w : W}, isW r kept w = true → isV r w = true
  | 0, _, _, h => by cases h
  | r + 1, kept, w, h => by
    obtain ⟨k, sh, its, E, hi⟩ := isW_ex h
    unfold isV
    rw [E.row]
    simp only [E.shp, E.len, decide_true, Bool.true_and, List.all_eq_true]
    exact fun p hp => itemB_mono (fun w hw => isW_isV hw) (hi p hp)
/-! ### rows and parts -/
theorem cnWs_mem : ∀ {ws : List W} {w : W}, w ∈ ws → cnW w ≤ cnWs ws
  | x :: ws, w, h => by
    simp only [cnWs]
    rcases List.mem_cons.mp h with rfl | h
    · omega
    · have := cnWs_mem h; omega
theorem plain_cn {c : Nat} {w : W} (h : plainB c w = true) : cnW w = 0 := by
  cases w with
  | int i => rfl
  | str x => rfl
  | _ =>
    exfalso
    simp [plainB, intB, writtenB, nameB, wordB] at h
theorem cn_sum {g : W → Nat} : ∀ {ps : List W}, (∀ p ∈ ps, g p ≤ cnW p) → (ps.map g).sum ≤ cnWs ps
  | [], _ => by simp
  | p :: ps, h => by
    have h1 := h p (by simp)
    have h2 := cn_sum (g := g) (ps := ps) fun q hq => h q (by simp [hq])
    simp only [cnWs, List.map_cons, List.sum_cons]
    omega
theorem cn_sum2 {g : W → Nat} : ∀ {ps : List W}, (∀ p ∈ ps, cnW p ≤ 4 * g p) → cnWs ps ≤ 4 * (ps.map g).sum
  | [], _ => by simp [cnWs]
  | p :: ps, h => by
    have h1 := h p (by simp)
    have h2 := cn_sum2 (g := g) (ps := ps) fun q hq => h q (by simp [hq])
    simp only [cnWs, List.map_cons, List.sum_cons]
    omega
theorem zip_cn {g : W → Nat} : ∀ {cs : List Nat} {its : List W}, its.length = cs.length → (∀ p ∈ cs.zip its, ((partL p.1 p.2).map g).sum ≤ cnW p.2) → ((cs.zip its).map fun p => ((partL p.1 p.2).map g).sum).sum ≤ cnWs its
  | [], [], _, _ => by simp
  | c :: cs, x :: its, hl, h => by
    have h1 := h (c, x) (by simp)
    have h2 := zip_cn (cs := cs) (its := its) (by simpa using hl) fun p hp => h p (by simp [hp])
    simp only [cnWs, List.zip_cons_cons, List.map_cons, List.sum_cons] at h1 ⊢
    omega
theorem zip_cn2 {g : W → Nat} : ∀ {cs : List Nat} {its : List W}, its.length = cs.length → (∀ p ∈ cs.zip its, cnW p.2 ≤ 1 + 4 * ((partL p.1 p.2).map g).sum) → cnWs its ≤ cs.length + 4 * ((cs.zip its).map fun p => ((partL p.1 p.2).map g).sum).sum
  | [], [], _, _ => by simp [cnWs]
  | c :: cs, x :: its, hl, h => by
    have h1 := h (c, x) (by simp)
    have h2 := zip_cn2 (cs := cs) (its := its) (by simpa using hl) fun p hp => h p (by simp [hp])
    simp only [cnWs, List.zip_cons_cons, List.map_cons, List.sum_cons, List.length_cons] at h1 ⊢
    omega
theorem isV_cn : ∀ (r : Nat) (w : W), isV r w = true → szW r w ≤ cnW w ∧ cnW w ≤ 4 * szW r w
  | 0, w, h => by cases h
  | r + 1, w, h => by
    obtain ⟨k, sh, its, E, hi⟩ := isV_ex h
    obtain ⟨hs3, _⟩ := shape_len E.shp
    rw [sz_parts E, row_cn E.row]
    have hl : its.length = sh.cps.toList.length := by rw [E.len]; rfl
    have z1 := zip_cn (g := szW r) hl (fun p hp => by
      have := hi p hp
      unfold itemB at this
      unfold partL
      split at this
      · rename_i hc
        rw [if_pos hc]
        have := (isV_cn r _ this).1
        simp only [List.map_cons, List.map_nil, List.sum_cons, List.sum_nil]
        omega
      · rename_i hc
        rw [if_neg hc]
        split at this
        · rename_i hc2
          rw [if_pos hc2]
          obtain ⟨ps, h1, h2, _, h3⟩ := rowB_inv this
          rw [row_cn h1, h1]
          have := cn_sum (g := szW r) (ps := ps) fun q hq => (isV_cn r q (h3 q hq)).1
          simp only [Option.getD_some]
          omega
        · rename_i hc2
          rw [if_neg hc2]; simp)
    have z2 := zip_cn2 (g := szW r) hl (fun p hp => by
      have := hi p hp
      unfold itemB at this
      unfold partL
      split at this
      · rename_i hc
        rw [if_pos hc]
        have := (isV_cn r _ this).2
        simp only [List.map_cons, List.map_nil, List.sum_cons, List.sum_nil]
        omega
      · rename_i hc
        rw [if_neg hc]
        split at this
        · rename_i hc2
          rw [if_pos hc2]
          obtain ⟨ps, h1, h2, _, h3⟩ := rowB_inv this
          rw [row_cn h1, h1]
          have := cn_sum2 (g := szW r) (ps := ps) fun q hq => (isV_cn r q (h3 q hq)).2
          simp only [Option.getD_some]
          omega
        · rename_i hc2
          rw [if_neg hc2, plain_cn this]; simp)
    rw [len_cps] at z2
    simp only [cnWs, cnW]
    omega
theorem row_cut {w : W} {ps : List W} {lo hi : Option Int} (h : rowW w = some ps) : ∃ u, cutW false w lo hi S = some (u, S) ∧ rowW u = some (cutL ps lo hi) := by
  cases w with
  | tup ws => cases h; exact ⟨_, rfl, rfl⟩
  | lst ws => cases h; exact ⟨_, rfl, rfl⟩
  | _ => cases h
end Sh

set_option Elab.async false
set_option linter.all false
set_option maxRecDepth 100000
set_option maxHeartbeats 4000000
namespace Sh
open PySem L2
variable {n : Nat} {S : Store}
def aloneL : List Str := "nothing" :: "fall" :: "here" :: []
def othersL : List Str := "first" :: "no" :: "if" :: "again" :: "items" :: "every" :: "while" :: "back" :: "out" :: "keep" :: "ask" :: "anew" :: "scan" :: "move" :: "tab" :: "find" :: "reach" :: "many" :: "match" :: "put" :: "take" :: "size" :: "at" :: "place" :: "say" :: []
inductive ExK (f : W → Bool) : Str → List W → Prop where
  | lone (k : Str) (h : k ∈ aloneL) : ExK f k []
  | num (i : Int) (h : -999 ≤ i ∧ i ≤ 999) : ExK f "number" [.int i]
  | txt (s : Str) (h : writtenB (.str s) = true) : ExK f "text" [.str s]
  | nam (s : Str) (h : nameB (.str s) = true) : ExK f "name" [.str s]
  | lis (x : W) (ps : List W) (h : rowW x = some ps) (hl : ps.length ≤ 4) (hp : ps.all f = true) : ExK f "list" [x]
  | op (k s : Str) (a b : W) (hk : k = "op" ∨ k = "test") (hs : s.length ≤ 4) (ha : f a = true) (hb : f b = true) : ExK f k [.str s, a, b]
  | bin (k : Str) (a b : W) (hk : k = "or" ∨ k = "and" ∨ k = "to") (ha : f a = true) (hb : f b = true) : ExK f k [a, b]
  | giv (k s : Str) (a : W) (hk : k = "give" ∨ k = "lend") (hs : nameB (.str s) = true) (ha : f a = true) : ExK f k [.str s, a]
  | most (i : Int) (a : W) (h : 0 ≤ i ∧ i ≤ 20) (ha : f a = true) : ExK f "most" [.int i, a]
  | do_ (x : W) (ps : List W) (h : rowW x = some ps) (h1 : 1 ≤ ps.length) (hl : ps.length ≤ 6) (hp : ps.all f = true) : ExK f "do" [x]
  | call (a x : W) (ps : List W) (ha : f a = true) (h : rowW x = some ps) (hl : ps.length ≤ 3) (hp : ps.all f = true) : ExK f "call" [a, x]
  | oth (k : Str) (its : List W) (hk : k ∈ othersL) (h1 : 1 ≤ its.length) (h3 : its.length ≤ 3) (hp : its.all f = true) : ExK f k its
theorem intB_ok {lo hi : Int} {w : W} (h : intB lo hi w = true) : ∃ i, w = .int i ∧ lo ≤ i ∧ i ≤ hi := by
  cases w with
  | int i => simp only [intB, Bool.and_eq_true, decide_eq_true_eq] at h; exact ⟨i, rfl, h⟩
  | _ => cases h
theorem nameB_ok {w : W} (h : nameB w = true) : ∃ s, w = .str s := by
  cases w with
  | str s => exact ⟨s, rfl⟩
  | _ => cases h
theorem writtenB_ok {w : W} (h : writtenB w = true) : ∃ s, w = .str s := by
  cases w with
  | str s => exact ⟨s, rfl⟩
  | _ => cases h
theorem wordB_ok {xs : List Str} {w : W} (h : wordB xs w = true) : ∃ s, w = .str s ∧ s ∈ xs := by
  cases w with
  | str s => exact ⟨s, rfl, of_decide_eq_true h⟩
  | _ => cases h
theorem ops_len : ∀ s ∈ opsL, s.length ≤ 4 := by decide +kernel
theorem tests_len : ∀ s ∈ testsL, s.length ≤ 4 := by decide +kernel
theorem rowB_ok {f : W → Bool} {c : Nat} {w : W} (h : rowB f c w = true) : ∃ ps, rowW w = some ps ∧ (if c = 100 then 1 else 0) ≤ ps.length ∧ (ps.length ≤ if c = 100 then 6 else if c = 97 then 3 else 4) ∧ ps.all f = true := by
  unfold rowB at h
  cases hr : rowW w with
  | none => rw [hr] at h; cases h
  | some ps =>
    rw [hr] at h
    simp only [Bool.and_eq_true, decide_eq_true_eq] at h
    exact ⟨ps, rfl, h.1.1, h.1.2, h.2⟩
theorem len2 {its : List W} (h : its.length = 2) : ∃ x y, its = [x, y] := match its, h with | [x, y], _ => ⟨x, y, rfl⟩
theorem len3 {its : List W} (h : its.length = 3) : ∃ x y z, its = [x, y, z] := match its, h with | [x, y, z], _ => ⟨x, y, z, rfl⟩
theorem shapes_all : ∀ p ∈ shapes, (p.1 ∈ aloneL ∧ p.2 = "") ∨ (p.1 = "number" ∧ p.2 = "n") ∨ (p.1 = "text" ∧ p.2 = "t") ∨ (p.1 = "name" ∧ p.2 = "x") ∨ (p.1 = "list" ∧ p.2 = "l") ∨ (p.1 = "op" ∧ p.2 = "oee") ∨ (p.1 = "test" ∧ p.2 = "cee") ∨
    (p.1 = "or" ∧ p.2 = "ee") ∨ (p.1 = "and" ∧ p.2 = "ee") ∨ (p.1 = "to" ∧ p.2 = "ee") ∨ (p.1 = "give" ∧ p.2 = "xe") ∨ (p.1 = "lend" ∧ p.2 = "xe") ∨ (p.1 = "most" ∧ p.2 = "me") ∨ (p.1 = "do" ∧ p.2 = "d") ∨ (p.1 = "call" ∧ p.2 = "ea") ∨
    (p.1 ∈ othersL ∧ 1 ≤ p.2.length ∧ p.2.length ≤ 3 ∧ p.2.cps.toList.all (fun c => decide (c = 101)) = true) := by decide +kernel
theorem exk_of {f : W → Bool} {k sh : Str} {its : List W} (hm : (k, sh) ∈ shapes) (hl : its.length = sh.length) (hi : ∀ p ∈ sh.cps.toList.zip its, itemB f p.1 p.2 = true) : ExK f k its := by
  have hc : ∀ (cs : List Nat) (its : List W), its.length = cs.length → (∀ p ∈ cs.zip its, itemB f p.1 p.2 = true) → (∀ c ∈ cs, c = 101) → its.all f = true := by
    intro cs
    induction cs with
    | nil => intro its h _ _; rw [List.length_eq_zero_iff.mp h]; rfl
    | cons c cs ih =>
      intro its h h2 h3
      cases its with
      | nil => cases h
      | cons x its =>
        have h4 := h2 (c, x) (by simp)
        have h5 := h3 c (by simp)
        simp only [itemB, h5, if_true] at h4
        rw [List.all_cons, h4, ih its (by simpa using h) (fun p hp => h2 p (by simp; exact .inr hp)) (fun c hc => h3 c (by simp [hc]))]
        rfl
  rcases shapes_all (k, sh) hm with h | h | h | h | h | h | h | h | h | h | h | h | h | h | h | h
  · obtain ⟨h1, h2⟩ := h
    have h2 : sh = "" := h2
    subst h2
    have : its = [] := List.length_eq_zero_iff.mp hl
    subst this
    exact .lone k h1
  all_goals first
    | (obtain ⟨h1, h2, h3, h4⟩ := h
       exact .oth k its h1 (by rw [hl]; exact h2) (by rw [hl]; exact h3) (hc sh.cps.toList its hl hi fun c hcm => by simpa using List.all_eq_true.mp h4 c hcm))
    | skip
  · obtain ⟨h1, h2⟩ := h; have h1 : k = _ := h1; have h2 : sh = _ := h2; subst h1 h2
    obtain ⟨x, rfl⟩ : ∃ x, its = [x] := List.length_eq_one_iff.mp hl
    have h := hi (110, x) (by simp)
    obtain ⟨i, rfl, hij⟩ := intB_ok (lo := -999) (hi := 999) (w := x) (by simpa [itemB, plainB] using h)
    exact .num i hij
  · obtain ⟨h1, h2⟩ := h; have h1 : k = _ := h1; have h2 : sh = _ := h2; subst h1 h2
    obtain ⟨x, rfl⟩ : ∃ x, its = [x] := List.length_eq_one_iff.mp hl
    have h := hi (116, x) (by simp)
    have h : writtenB x = true := by simpa [itemB, plainB] using h
    obtain ⟨s, rfl⟩ := writtenB_ok h
    exact .txt s h
  · obtain ⟨h1, h2⟩ := h; have h1 : k = _ := h1; have h2 : sh = _ := h2; subst h1 h2
    obtain ⟨x, rfl⟩ : ∃ x, its = [x] := List.length_eq_one_iff.mp hl
    have h := hi (120, x) (by simp)
    have h : nameB x = true := by simpa [itemB, plainB] using h
    obtain ⟨s, rfl⟩ := nameB_ok h
    exact .nam s h
  · obtain ⟨h1, h2⟩ := h; have h1 : k = _ := h1; have h2 : sh = _ := h2; subst h1 h2
    obtain ⟨x, rfl⟩ : ∃ x, its = [x] := List.length_eq_one_iff.mp hl
    have h := hi (108, x) (by simp)
    obtain ⟨ps, h1, h2, h3, h4⟩ := rowB_ok (f := f) (c := 108) (w := x) (by simpa [itemB] using h)
    exact .lis x ps h1 (by simpa using h3) h4
  · obtain ⟨h1, h2⟩ := h; have h1 : k = _ := h1; have h2 : sh = _ := h2; subst h1 h2
    obtain ⟨x, y, z, rfl⟩ : ∃ x y z, its = [x, y, z] := len3 hl
    have h := hi (111, x) (by simp)
    have h' := hi (101, y) (by simp)
    have h'' := hi (101, z) (by simp)
    obtain ⟨s, rfl, hs⟩ := wordB_ok (xs := opsL) (w := x) (by simpa [itemB, plainB] using h)
    exact .op _ s y z (.inl rfl) (ops_len s hs) (by simpa [itemB] using h') (by simpa [itemB] using h'')
  · obtain ⟨h1, h2⟩ := h; have h1 : k = _ := h1; have h2 : sh = _ := h2; subst h1 h2
    obtain ⟨x, y, z, rfl⟩ : ∃ x y z, its = [x, y, z] := len3 hl
    have h := hi (99, x) (by simp)
    have h' := hi (101, y) (by simp)
    have h'' := hi (101, z) (by simp)
    obtain ⟨s, rfl, hs⟩ := wordB_ok (xs := testsL) (w := x) (by simpa [itemB, plainB] using h)
    exact .op _ s y z (.inr rfl) (tests_len s hs) (by simpa [itemB] using h') (by simpa [itemB] using h'')
  · obtain ⟨h1, h2⟩ := h; have h1 : k = _ := h1; have h2 : sh = _ := h2; subst h1 h2
    obtain ⟨x, y, rfl⟩ : ∃ x y, its = [x, y] := len2 hl
    have h := hi (101, x) (by simp)
    have h' := hi (101, y) (by simp)
    exact .bin _ x y (.inl rfl) (by simpa [itemB] using h) (by simpa [itemB] using h')
  · obtain ⟨h1, h2⟩ := h; have h1 : k = _ := h1; have h2 : sh = _ := h2; subst h1 h2
    obtain ⟨x, y, rfl⟩ : ∃ x y, its = [x, y] := len2 hl
    have h := hi (101, x) (by simp)
    have h' := hi (101, y) (by simp)
    exact .bin _ x y (.inr (.inl rfl)) (by simpa [itemB] using h) (by simpa [itemB] using h')
  · obtain ⟨h1, h2⟩ := h; have h1 : k = _ := h1; have h2 : sh = _ := h2; subst h1 h2
    obtain ⟨x, y, rfl⟩ : ∃ x y, its = [x, y] := len2 hl
    have h := hi (101, x) (by simp)
    have h' := hi (101, y) (by simp)
    exact .bin _ x y (.inr (.inr rfl)) (by simpa [itemB] using h) (by simpa [itemB] using h')
  · obtain ⟨h1, h2⟩ := h; have h1 : k = _ := h1; have h2 : sh = _ := h2; subst h1 h2
    obtain ⟨x, y, rfl⟩ : ∃ x y, its = [x, y] := len2 hl
    have h := hi (120, x) (by simp)
    have h' := hi (101, y) (by simp)
    have h : nameB x = true := by simpa [itemB, plainB] using h
    obtain ⟨s, rfl⟩ := nameB_ok h
    exact .giv _ s y (.inl rfl) h (by simpa [itemB] using h')
  · obtain ⟨h1, h2⟩ := h; have h1 : k = _ := h1; have h2 : sh = _ := h2; subst h1 h2
    obtain ⟨x, y, rfl⟩ : ∃ x y, its = [x, y] := len2 hl
    have h := hi (120, x) (by simp)
    have h' := hi (101, y) (by simp)
    have h : nameB x = true := by simpa [itemB, plainB] using h
    obtain ⟨s, rfl⟩ := nameB_ok h
    exact .giv _ s y (.inr rfl) h (by simpa [itemB] using h')
  · obtain ⟨h1, h2⟩ := h; have h1 : k = _ := h1; have h2 : sh = _ := h2; subst h1 h2
    obtain ⟨x, y, rfl⟩ : ∃ x y, its = [x, y] := len2 hl
    have h := hi (109, x) (by simp)
    have h' := hi (101, y) (by simp)
    obtain ⟨i, rfl, hij⟩ := intB_ok (lo := 0) (hi := 20) (w := x) (by simpa [itemB, plainB] using h)
    exact .most i y hij (by simpa [itemB] using h')
  · obtain ⟨h1, h2⟩ := h; have h1 : k = _ := h1; have h2 : sh = _ := h2; subst h1 h2
    obtain ⟨x, rfl⟩ : ∃ x, its = [x] := List.length_eq_one_iff.mp hl
    have h := hi (100, x) (by simp)
    obtain ⟨ps, h1, h2, h3, h4⟩ := rowB_ok (f := f) (c := 100) (w := x) (by simpa [itemB] using h)
    exact .do_ x ps h1 (by simpa using h2) (by simpa using h3) h4
  · obtain ⟨h1, h2⟩ := h; have h1 : k = _ := h1; have h2 : sh = _ := h2; subst h1 h2
    obtain ⟨x, y, rfl⟩ : ∃ x y, its = [x, y] := len2 hl
    have h := hi (101, x) (by simp)
    have h' := hi (97, y) (by simp)
    obtain ⟨ps, h1, h2, h3, h4⟩ := rowB_ok (f := f) (c := 97) (w := y) (by simpa [itemB] using h')
    exact .call x y ps (by simpa [itemB] using h) h1 (by simpa using h3) h4
def numS (i : Int) : Str := toString i
theorem num_len {i : Int} (h : -999 ≤ i ∧ i ≤ 999) : (numS i).length ≤ 4 := by
  have key : ∀ j : Fin 1999, (numS ((j.val : Int) - 999)).length ≤ 4 := by decide +kernel
  have := key ⟨(i + 999).toNat, by omega⟩
  have e : (((i + 999).toNat : Nat) : Int) - 999 = i := by omega
  simp only [e] at this
  exact this
end Sh

set_option Elab.async false
set_option linter.all false
set_option maxRecDepth 100000
set_option maxHeartbeats 4000000
namespace Sh
open PySem L2
variable {n : Nat} {S : Store}
def numI : W → Str
  | .int i => numS i
  | _ => Str.empty
def strI : W → Str
  | .str s => s
  | _ => Str.empty
abbrev joinS (xs : List Str) : Str := Txt.join ", " xs
def pairS (a s b : Str) : Str := "(" ++ a ++ " " ++ s ++ " " ++ b ++ ")"
def rowT (f : W → Str) (x : W) : Str := joinS (((rowW x).getD []).map f)
def brK (f : W → Str) (k : Str) (its : List W) : Str :=
  if k = "most" then numI (its.getD 0 .non) ++ ", " ++ f (its.getD 1 .non)
  else if k = "do" then rowT f (its.getD 0 .non)
  else if k = "call" then joinS ((its.getD 0 .non :: (rowW (its.getD 1 .non)).getD []).map f)
  else joinS (its.map f)
def txtK (f : W → Str) (k : Str) (its : List W) : Str :=
  if k ∈ aloneL then k
  else if k = "number" then numI (its.getD 0 .non)
  else if k = "text" then "'" ++ strI (its.getD 0 .non) ++ "'"
  else if k = "name" then strI (its.getD 0 .non)
  else if k = "list" then "[" ++ rowT f (its.getD 0 .non) ++ "]"
  else if k = "op" ∨ k = "test" then pairS (f (its.getD 1 .non)) (strI (its.getD 0 .non)) (f (its.getD 2 .non))
  else if k = "or" then pairS (f (its.getD 0 .non)) "|" (f (its.getD 1 .non))
  else if k = "and" then pairS (f (its.getD 0 .non)) "&" (f (its.getD 1 .non))
  else if k = "to" then pairS (f (its.getD 0 .non)) "to" (f (its.getD 1 .non))
  else if k = "give" then pairS (strI (its.getD 0 .non)) ":=" (f (its.getD 1 .non))
  else if k = "lend" then pairS (strI (its.getD 0 .non)) "<-" (f (its.getD 1 .non))
  else k ++ "(" ++ brK f k its ++ ")"
def txtW : Nat → W → Str
  | 0, _ => Str.empty
  | r + 1, w => match rowW w with
    | some (.str k :: its) => txtK (txtW r) k its
    | _ => Str.empty
theorem oth_ne : ∀ k ∈ othersL, k ∉ aloneL ∧ k ≠ "number" ∧ k ≠ "text" ∧ k ≠ "name" ∧ k ≠ "list" ∧ k ≠ "op" ∧ k ≠ "test" ∧ k ≠ "or" ∧ k ≠ "and" ∧ k ≠ "to" ∧ k ≠ "give" ∧ k ≠ "lend" ∧ k ≠ "most" ∧ k ≠ "do" ∧ k ≠ "call" ∧ k.length ≤ 7 := by decide +kernel
theorem alone_eq : c_ALONE = .tup (aloneL.map W.str) := rfl
theorem len_app {a b : Str} : (a ++ b).length = a.length + b.length := PySem.Str.length_append a b
@[simp] theorem len_mk {l : List Nat} : (⟨l.toArray⟩ : Str).length = l.length := by simp [PySem.Str.length]
theorem pair_eq (hS : Clo S) {a b c : Str} (ha : a.length ≤ 1000000) (hb : b.length ≤ 1000000) (hc : c.length ≤ 1000000) : F (n + 1) .f_pair [.str a, .str b, .str c] S = .ok (.str (pairS a b c)) S := by
  rw [F_pair]
  simp [b_pair, len_app, pairS]
  simp (disch := omega) only [if_pos]
  simp [hS]
theorem strsW_map {f : W → Str} : ∀ ps : List W, strsW (ps.map fun p => W.str (f p)) = some (ps.map f)
  | [] => rfl
  | p :: ps => by simp [strsW, strsW_map ps]
theorem sum_le {α : Type} {g : α → Nat} {B : Nat} : ∀ {xs : List α}, (∀ x ∈ xs, g x ≤ B) → (xs.map g).sum ≤ xs.length * B
  | [], _ => by simp
  | x :: xs, h => by
    have h1 := h x (by simp)
    have h2 := sum_le (xs := xs) fun y hy => h y (by simp [hy])
    simp [Nat.add_mul]
    omega
theorem joined_eq (hS : Clo S) {C : Fn → Cal} {u : W} {ps : List W} {f : W → Str} (hr : rowW u = some ps) (hl : ps.length ≤ 100) (hf : ∀ p ∈ ps, C .f_written [p] S = .ok (.str (f p)) S) (hB : ∀ p ∈ ps, (f p).length ≤ 100000) :
    runDef 1 2 (b_joined C) [u] S = .ok (.str (joinS (ps.map f))) S := by
  have hlc : eLc false (iE (eVar 0)) [1] (gVar 1) tYesM (eCall (C .f_written) [eVar 1]) [some u, none] S = .ok (.lst (ps.map fun p => W.str (f p))) S :=
    lc_map (m := false) (f := fun p => W.str (f p)) (iE_ok (w := u) (by simp) (row_iter hr)) (by simp; omega) (fun x hx => by simp [wipeE, hf x hx])
  have hsum := sum_le (g := fun p => (f p).length) (B := 100000) hB
  have hcond : (ps.map ((fun x => x.length) ∘ f)).sum + ps.length * 2 ≤ 16777216 := by
    have : (ps.map ((fun x => x.length) ∘ f)).sum = (ps.map fun p => (f p).length).sum := rfl
    rw [this]
    omega
  simp [b_joined, hlc, joinM, strsW_map, hcond, hS, joinS]
theorem alone_ne : ∀ k ∈ aloneL, k ≠ "most" ∧ k ≠ "do" ∧ k ≠ "call" ∧ k ∉ othersL ∧ k.length ≤ 7 := by decide +kernel
theorem lits_ne : ("number" : Str) ∉ othersL ∧ ("text" : Str) ∉ othersL ∧ ("name" : Str) ∉ othersL ∧ ("list" : Str) ∉ othersL ∧ ("op" : Str) ∉ othersL ∧ ("test" : Str) ∉ othersL ∧ ("or" : Str) ∉ othersL ∧ ("and" : Str) ∉ othersL ∧ ("to" : Str) ∉ othersL ∧ ("give" : Str) ∉ othersL ∧ ("lend" : Str) ∉ othersL := by decide +kernel
theorem cutL_1 {x : W} {its : List W} : cutL (x :: its) (some 1) none = its := by
  unfold cutL
  rw [HT.sIx_none, show (some (1 : Int)) = some ((1 : Nat) : Int) from rfl, HT.sIx_nat]
  simp
theorem row_list {w : W} {ps : List W} {m : Bool} (h : rowW w = some ps) : listN m [w] S = some (mkL m ps S) := by
  cases w with
  | tup ws => cases h; rfl
  | lst ws => cases h; rfl
  | _ => cases h
/-- the expression's text, the program's way -/
theorem bracketed_eq (hS : Clo S) {C : Fn → Cal} {w : W} {k : Str} {its : List W} {g : W → Bool} {f : W → Str} (hr : rowW w = some (.str k :: its)) (hx : ExK g k its) (hk : k = "most" ∨ k = "do" ∨ k = "call" ∨ k ∈ othersL)
    (c1 : ∀ p, g p = true → C .f_written [p] S = .ok (.str (f p)) S) (cB : ∀ p, g p = true → (f p).length ≤ 100000)
    (c2 : ∀ u ps, rowW u = some ps → ps.length ≤ 100 → (∀ p ∈ ps, g p = true) → C .f_joined [u] S = .ok (.str (joinS (ps.map f))) S) :
    runDef 1 2 (b_bracketed C) [w] S = .ok (.str (brK f k its)) S := by
  have h3 := fun (S : Store) (i : Nat) => row_get (S := S) (i := i) (G := gdT) hr
  have h30 := fun S => h3 S 0
  have h31 := fun S => h3 S 1
  have h32 := fun S => h3 S 2
  simp at h30 h31 h32
  cases hx with
  | lone k h => obtain ⟨a1, a2, a3, a4, _⟩ := alone_ne k h; exact absurd hk (fun z => z.elim a1 fun z => z.elim a2 fun z => z.elim a3 a4)
  | num i h => exact absurd hk (by decide +kernel)
  | txt s h => exact absurd hk (by decide +kernel)
  | nam s h => exact absurd hk (by decide +kernel)
  | lis x ps h hl hp => exact absurd hk (by decide +kernel)
  | op k s a b hk' hs ha hb => rcases hk' with rfl | rfl <;> exact absurd hk (by decide +kernel)
  | bin k a b hk' ha hb => rcases hk' with rfl | rfl | rfl <;> exact absurd hk (by decide +kernel)
  | giv k s a hk' hs ha => rcases hk' with rfl | rfl <;> exact absurd hk (by decide +kernel)
  | most i a h ha =>
    have h4 : (numS i).length ≤ 4 := num_len (by omega)
    have hb : -big ≤ i ∧ i < big := by
      have := big_nat (n := i.toNat) (by omega)
      have e : ((i.toNat : Nat) : Int) = i := by omega
      rw [e] at this; exact this
    have hs : strN [W.int i] S = some (.str (numS i), S) := by
      unfold strN; exact if_pos hb
    have h5 := cB a ha
    simp at h31 h32
    simp [b_bracketed, h30, h31, h32, hs, c1 a ha, brK, len_app, numI]
    simp (disch := omega) only [if_pos]
    simp [hS]
  | do_ x ps h h1 hl hp =>
    have hc2 := c2 x ps h (by omega) (fun p hp' => List.all_eq_true.mp hp p hp')
    simp at h31
    simp [b_bracketed, h30, h31, hc2, brK, rowT, h, hS]
  | call a x ps ha h hl hp =>
    have hc2 := c2 (.lst (a :: ps)) (a :: ps) rfl (by simp; omega) (fun p hp' => by
      rcases List.mem_cons.mp hp' with rfl | hp'
      · exact ha
      · exact List.all_eq_true.mp hp p hp')
    have hl2 : ps.length + 1 ≤ 16777216 := by omega
    simp at h31 h32
    simp [b_bracketed, h30, h31, h32, row_list h, brK, h, hl2]
    simp (disch := omega) only [if_pos]
    simp [hc2, hS]
  | oth k its hk' h1 h3 hp =>
    obtain ⟨_, _, _, _, _, _, _, _, _, _, _, _, o1, o2, o3, _⟩ := oth_ne k hk'
    obtain ⟨u, hu1, hu2⟩ := row_cut (S := S) (lo := some 1) (hi := none) hr
    rw [cutL_1] at hu2
    have hc2 := c2 u its hu2 (by omega) (fun p hp' => List.all_eq_true.mp hp p hp')
    simp at o1 o2 o3
    simp [b_bracketed, h30, hu1, hc2, brK, o1, o2, o3, hS]
end Sh

set_option Elab.async false
set_option linter.all false
set_option maxRecDepth 100000
set_option maxHeartbeats 4000000
namespace Sh
open PySem L2
variable {n : Nat} {S : Store}
theorem join_le (xs : List Str) : (joinS xs).length ≤ (xs.map (·.length)).sum + xs.length * 2 := by
  have h := PySem.StrLaws.join_length_le ", " xs
  have e : (", " : Str).length = 2 := by decide +kernel
  rw [e] at h
  show (PySem.Txt.join ", " xs).length ≤ _
  rw [show PySem.Txt.join ", " xs = PySem.Str.join ", " xs from PySem.StrLaws.glued_eq_join ..]
  exact h
theorem joinf_le {f : W → Str} {ps : List W} {B : Nat} (h : ∀ p ∈ ps, (f p).length ≤ B) : (joinS (ps.map f)).length ≤ ps.length * (B + 2) := by
  have h1 := join_le (ps.map f)
  have h2 := sum_le (g := fun p => (f p).length) (B := B) h
  rw [List.map_map, List.length_map] at h1
  have e : (ps.map ((fun x => x.length) ∘ f)).sum = (ps.map fun p => (f p).length).sum := rfl
  rw [e] at h1
  rw [Nat.mul_add]
  omega
theorem brK_len {k : Str} {its : List W} {g : W → Bool} {f : W → Str} (hx : ExK g k its) (hk : k = "most" ∨ k = "do" ∨ k = "call" ∨ k ∈ othersL) (cB : ∀ p, g p = true → (f p).length ≤ 100000) : (brK f k its).length ≤ 700000 ∧ k.length ≤ 7 := by
  cases hx with
  | lone k h => obtain ⟨a1, a2, a3, a4, _⟩ := alone_ne k h; exact absurd hk (fun z => z.elim a1 fun z => z.elim a2 fun z => z.elim a3 a4)
  | num i h => exact absurd hk (by decide +kernel)
  | txt s h => exact absurd hk (by decide +kernel)
  | nam s h => exact absurd hk (by decide +kernel)
  | lis x ps h hl hp => exact absurd hk (by decide +kernel)
  | op k s a b hk' hs ha hb => rcases hk' with rfl | rfl <;> exact absurd hk (by decide +kernel)
  | bin k a b hk' ha hb => rcases hk' with rfl | rfl | rfl <;> exact absurd hk (by decide +kernel)
  | giv k s a hk' hs ha => rcases hk' with rfl | rfl <;> exact absurd hk (by decide +kernel)
  | most i a h ha =>
    have h4 : (numS i).length ≤ 4 := num_len (by omega)
    have := cB a ha
    refine ⟨?_, by decide +kernel⟩
    simp [brK, numI, len_app]
    omega
  | do_ x ps h h1 hl hp =>
    have := joinf_le (f := f) (ps := ps) (B := 100000) fun p hp' => cB p (List.all_eq_true.mp hp p hp')
    refine ⟨?_, by decide +kernel⟩
    have e : brK f "do" [x] = joinS (ps.map f) := by
      unfold brK
      rw [if_neg (by decide +kernel), if_pos rfl]
      simp [rowT, h]
    rw [e]; omega
  | call a x ps ha h hl hp =>
    have := joinf_le (f := f) (ps := a :: ps) (B := 100000) fun p hp' => cB p (by
      rcases List.mem_cons.mp hp' with rfl | hp'
      · exact ha
      · exact List.all_eq_true.mp hp p hp')
    refine ⟨?_, by decide +kernel⟩
    have e : brK f "call" [a, x] = joinS ((a :: ps).map f) := by
      unfold brK
      rw [if_neg (by decide +kernel), if_neg (by decide +kernel), if_pos rfl]
      simp [h]
    rw [e]; simp only [List.length_cons] at this; omega
  | oth k its hk' h1 h3 hp =>
    obtain ⟨_, _, _, _, _, _, _, _, _, _, _, _, o1, o2, o3, o4⟩ := oth_ne k hk'
    have := joinf_le (f := f) (ps := its) (B := 100000) fun p hp' => cB p (List.all_eq_true.mp hp p hp')
    refine ⟨?_, o4⟩
    have e : brK f k its = joinS (its.map f) := by
      unfold brK
      rw [if_neg o1, if_neg o2, if_neg o3]
    rw [e]; omega
theorem between_gd : gdT "BETWEEN" = some kv_BETWEEN := by
  unfold gdT
  rw [if_pos rfl]
def betweenL : List (Str × Str) := ("or", "|") :: ("and", "&") :: ("to", "to") :: []
theorem between_eq : kv_BETWEEN = betweenL.map fun p => (p.1, .str p.2) := rfl
theorem in_BETWEEN {k : Str} : inW gdT (.str k) (.glo "BETWEEN") S = some (.bl (betweenL.lookup k).isSome, S) := by
  simp only [inW, inB, between_gd, between_eq, look_map]
  cases betweenL.lookup k <;> rfl
theorem get_BETWEEN {k : Str} : getW gdT (.glo "BETWEEN") (.str k) S = (betweenL.lookup k).map fun z => (.str z, S) := by
  simp only [getW, between_gd, between_eq, look_map]
  cases betweenL.lookup k <;> rfl
end Sh

set_option Elab.async false
set_option linter.all false
set_option maxRecDepth 100000
set_option maxHeartbeats 4000000
namespace Sh
open PySem L2
variable {n : Nat} {S : Store}
theorem oth_btw : ∀ k ∈ othersL, betweenL.lookup k = none := by decide +kernel
theorem strN_num {i : Int} (h : -999 ≤ i ∧ i ≤ 999) : strN [W.int i] S = some (.str (numS i), S) := by
  have hb : -big ≤ i ∧ i < big := by
    have h1 := big_nat (n := 999) (by decide)
    constructor
    · have : -big ≤ -((999 : Nat) : Int) := Int.neg_le_neg (Int.le_of_lt h1.2)
      exact Int.le_trans this h.1
    · exact Int.lt_of_le_of_lt h.2 h1.2
  unfold strN; exact if_pos hb
theorem b_written_eq (hS : Clo S) {C : Fn → Cal} {w : W} {k : Str} {its : List W} {g : W → Bool} {f : W → Str} (hr : rowW w = some (.str k :: its)) (hx : ExK g k its)
    (c1 : ∀ p, g p = true → C .f_written [p] S = .ok (.str (f p)) S) (cB : ∀ p, g p = true → (f p).length ≤ 100000)
    (c2 : ∀ u ps, rowW u = some ps → ps.length ≤ 100 → (∀ p ∈ ps, g p = true) → C .f_joined [u] S = .ok (.str (joinS (ps.map f))) S)
    (c3 : ∀ a b c : Str, a.length ≤ 1000000 → b.length ≤ 1000000 → c.length ≤ 1000000 → C .f_pair [.str a, .str b, .str c] S = .ok (.str (pairS a b c)) S)
    (c4 : (k = "most" ∨ k = "do" ∨ k = "call" ∨ k ∈ othersL) → C .f_bracketed [w] S = .ok (.str (brK f k its)) S) :
    runDef 1 2 (b_written C) [w] S = .ok (.str (txtK f k its)) S := by
  have h3 := fun (S : Store) (i : Nat) => row_get (S := S) (i := i) (G := gdT) hr
  have h30 := fun S => h3 S 0
  have h31 := fun S => h3 S 1
  have h32 := fun S => h3 S 2
  have h33 := fun S => h3 S 3
  simp at h30 h31 h32 h33
  have bl : betweenL.lookup ("or" : Str) = some ("|" : Str) ∧ betweenL.lookup ("and" : Str) = some ("&" : Str) ∧ betweenL.lookup ("to" : Str) = some ("to" : Str) ∧ betweenL.lookup ("give" : Str) = none ∧ betweenL.lookup ("lend" : Str) = none ∧ betweenL.lookup ("most" : Str) = none ∧ betweenL.lookup ("do" : Str) = none ∧ betweenL.lookup ("call" : Str) = none := by decide +kernel
  simp only [lit_90, lit_116, lit_37, lit_8, lit_106, lit_59, lit_68, lit_76, lit_48, lit_44] at bl
  have hbr := fun hk => brK_len (f := f) hx hk cB
  cases hx with
  | lone k h =>
    simp [b_written, h30, alone_eq, in_strs, h, txtK, hS]
  | num i h =>
    have na : ("number" : Str) ∉ aloneL := by decide +kernel
    simp at na
    simp at h31
    simp [b_written, h30, h31, alone_eq, in_strs, na, txtK, hS, strN_num h, numI]
  | txt s h =>
    have na : ("text" : Str) ∉ aloneL := by decide +kernel
    simp at na
    have := wri_len h
    simp at h31
    simp [b_written, h30, h31, alone_eq, in_strs, na, txtK, len_app, strI]
    simp (disch := omega) only [if_pos]
    simp [hS]
  | nam s h =>
    have na : ("name" : Str) ∉ aloneL := by decide +kernel
    simp at na
    simp at h31
    simp [b_written, h30, h31, alone_eq, in_strs, na, txtK, hS, strI]
  | lis x ps h hl hp =>
    have na : ("list" : Str) ∉ aloneL := by decide +kernel
    simp at na
    have hc2 := c2 x ps h (by omega) (fun p hp' => List.all_eq_true.mp hp p hp')
    have hj := joinf_le (f := f) (ps := ps) (B := 100000) fun p hp' => cB p (List.all_eq_true.mp hp p hp')
    simp at h31
    simp [b_written, h30, h31, alone_eq, in_strs, na, txtK, len_app, hc2, rowT, h]
    simp (disch := omega) only [if_pos]
    simp [hS]
  | op k s a b hk hs ha hb =>
    have na : ("op" : Str) ∉ aloneL ∧ ("test" : Str) ∉ aloneL := by decide +kernel
    simp at na
    have hc := c3 (f a) s (f b) (by have := cB a ha; omega) (by omega) (by have := cB b hb; omega)
    simp at h31 h32 h33
    rcases hk with rfl | rfl <;> simp [b_written, h30, h31, h32, h33, alone_eq, in_strs, na, txtK, hc, c1 a ha, c1 b hb, strI, hS]
  | bin k a b hk ha hb =>
    have na : ("or" : Str) ∉ aloneL ∧ ("and" : Str) ∉ aloneL ∧ ("to" : Str) ∉ aloneL := by decide +kernel
    simp at na
    have hc := fun s (hs : s.length ≤ 1000000) => c3 (f a) s (f b) (by have := cB a ha; omega) hs (by have := cB b hb; omega)
    have hc1 := hc "|" (by decide +kernel)
    have hc2 := hc "&" (by decide +kernel)
    have hc3 := hc "to" (by decide +kernel)
    simp at h31 h32 hc1 hc2 hc3
    rcases hk with rfl | rfl | rfl <;> simp [b_written, h30, h31, h32, alone_eq, in_strs, na, txtK, hc1, hc2, hc3, c1 a ha, c1 b hb, in_BETWEEN, get_BETWEEN, bl, hS]
  | giv k s a hk hs ha =>
    have na : ("give" : Str) ∉ aloneL ∧ ("lend" : Str) ∉ aloneL := by decide +kernel
    simp at na
    have hn := name_len hs
    have hc := fun t (ht : t.length ≤ 1000000) => c3 s t (f a) (by omega) ht (by have := cB a ha; omega)
    have hc1 := hc ":=" (by decide +kernel)
    have hc2 := hc "<-" (by decide +kernel)
    simp at h31 h32 hc1 hc2
    rcases hk with rfl | rfl <;> simp [b_written, h30, h31, h32, alone_eq, in_strs, na, txtK, hc1, hc2, c1 a ha, in_BETWEEN, bl, strI, hS]
  | most i a h ha =>
    have na : ("most" : Str) ∉ aloneL := by decide +kernel
    simp at na
    have h4 := c4 (.inl rfl)
    have h5 := hbr (.inl rfl)
    simp at h4 h5
    simp [b_written, h30, alone_eq, in_strs, na, txtK, len_app, in_BETWEEN, bl, h4]
    simp (disch := omega) only [if_pos]
    simp [hS]
  | do_ x ps h h1 hl hp =>
    have na : ("do" : Str) ∉ aloneL := by decide +kernel
    simp at na
    have h4 := c4 (.inr (.inl rfl))
    have h5 := hbr (.inr (.inl rfl))
    simp at h4 h5
    simp [b_written, h30, alone_eq, in_strs, na, txtK, len_app, in_BETWEEN, bl, h4]
    simp (disch := omega) only [if_pos]
    simp [hS]
  | call a x ps ha h hl hp =>
    have na : ("call" : Str) ∉ aloneL := by decide +kernel
    simp at na
    have h4 := c4 (.inr (.inr (.inl rfl)))
    have h5 := hbr (.inr (.inr (.inl rfl)))
    simp at h4 h5
    simp [b_written, h30, alone_eq, in_strs, na, txtK, len_app, in_BETWEEN, bl, h4]
    simp (disch := omega) only [if_pos]
    simp [hS]
  | oth k its hk h1 h3 hp =>
    have h4 := c4 (.inr (.inr (.inr hk)))
    have h5 := hbr (.inr (.inr (.inr hk)))
    obtain ⟨o1, o2, o3, o4, o5, o6, o7, o8, o9, o10, o11, o12, o13, o14, o15, o16⟩ := oth_ne k hk
    have ob := oth_btw k hk
    have e : txtK f k its = k ++ "(" ++ brK f k its ++ ")" := by
      unfold txtK
      rw [if_neg o1, if_neg o2, if_neg o3, if_neg o4, if_neg o5, if_neg (by rintro (z | z); exact o6 z; exact o7 z), if_neg o8, if_neg o9, if_neg o10, if_neg o11, if_neg o12]
    rw [e]
    simp at o2 o3 o4 o5 o6 o7 o11 o12
    simp [b_written, h30, alone_eq, in_strs, o1, o2, o3, o4, o5, o6, o7, o11, o12, len_app, in_BETWEEN, ob, h4]
    simp (disch := omega) only [if_pos]
    simp [hS]
end Sh

set_option Elab.async false
set_option linter.all false
set_option maxRecDepth 100000
set_option maxHeartbeats 4000000
namespace Sh
open PySem L2
variable {n : Nat} {S : Store}
/-- the parts, by kind -/
def partsE (k : Str) (its : List W) : List W :=
  if k = "list" ∨ k = "do" then (rowW (its.getD 0 .non)).getD []
  else if k = "call" then its.getD 0 .non :: (rowW (its.getD 1 .non)).getD []
  else if k = "number" ∨ k = "text" ∨ k = "name" then []
  else if k = "op" ∨ k = "test" ∨ k = "give" ∨ k = "lend" ∨ k = "most" then its.drop 1
  else its
theorem oth_not : ∀ k ∈ othersL, ¬ (k = "list" ∨ k = "do") ∧ k ≠ "call" ∧ ¬ (k = "number" ∨ k = "text" ∨ k = "name") ∧ ¬ (k = "op" ∨ k = "test" ∨ k = "give" ∨ k = "lend" ∨ k = "most") := by decide +kernel
theorem alone_not : ∀ k ∈ aloneL, ¬ (k = "list" ∨ k = "do") ∧ k ≠ "call" ∧ ¬ (k = "number" ∨ k = "text" ∨ k = "name") ∧ ¬ (k = "op" ∨ k = "test" ∨ k = "give" ∨ k = "lend" ∨ k = "most") := by decide +kernel
theorem partsE_eq {k sh : Str} {its : List W} (hm : (k, sh) ∈ shapes) (hl : its.length = sh.length) : ((sh.cps.toList.zip its).flatMap fun p => partL p.1 p.2) = partsE k its := by
  have hc : ∀ (cs : List Nat) (its : List W), its.length = cs.length → (∀ c ∈ cs, c = 101) → ((cs.zip its).flatMap fun p => partL p.1 p.2) = its := by
    intro cs
    induction cs with
    | nil => intro its h _; rw [List.length_eq_zero_iff.mp h]; rfl
    | cons c cs ih =>
      intro its h h3
      cases its with
      | nil => cases h
      | cons x its =>
        have h5 := h3 c (by simp)
        rw [List.zip_cons_cons, List.flatMap_cons, ih its (by simpa using h) (fun c hc => h3 c (by simp [hc]))]
        simp [partL, h5]
  rcases shapes_all (k, sh) hm with h | h | h | h | h | h | h | h | h | h | h | h | h | h | h | h
  · obtain ⟨h1, h2⟩ := h
    have h2 : sh = "" := h2
    subst h2
    have : its = [] := List.length_eq_zero_iff.mp hl
    subst this
    obtain ⟨a1, a2, a3, a4⟩ := alone_not k h1
    unfold partsE
    rw [if_neg a1, if_neg a2, if_neg a3, if_neg a4]
    simp
  all_goals first
    | (obtain ⟨h1, h2, h3, h4⟩ := h
       obtain ⟨a1, a2, a3, a4⟩ := oth_not k h1
       unfold partsE
       rw [if_neg a1, if_neg a2, if_neg a3, if_neg a4]
       exact hc sh.cps.toList its hl fun c hcm => by simpa using List.all_eq_true.mp h4 c hcm)
    | skip
  all_goals obtain ⟨h1, h2⟩ := h
  all_goals (have h1 : k = _ := h1)
  all_goals (have h2 : sh = _ := h2)
  all_goals subst h1 h2
  · obtain ⟨x, rfl⟩ : ∃ x, its = [x] := List.length_eq_one_iff.mp hl
    simp [partsE, partL]
  · obtain ⟨x, rfl⟩ : ∃ x, its = [x] := List.length_eq_one_iff.mp hl
    simp [partsE, partL]
  · obtain ⟨x, rfl⟩ : ∃ x, its = [x] := List.length_eq_one_iff.mp hl
    simp [partsE, partL]
  · obtain ⟨x, rfl⟩ : ∃ x, its = [x] := List.length_eq_one_iff.mp hl
    simp [partsE, partL]
  · obtain ⟨x, y, z, rfl⟩ : ∃ x y z, its = [x, y, z] := len3 hl
    simp [partsE, partL]
  · obtain ⟨x, y, z, rfl⟩ : ∃ x y z, its = [x, y, z] := len3 hl
    simp [partsE, partL]
  · obtain ⟨x, y, rfl⟩ : ∃ x y, its = [x, y] := len2 hl
    simp [partsE, partL]
  · obtain ⟨x, y, rfl⟩ : ∃ x y, its = [x, y] := len2 hl
    simp [partsE, partL]
  · obtain ⟨x, y, rfl⟩ : ∃ x y, its = [x, y] := len2 hl
    simp [partsE, partL]
  · obtain ⟨x, y, rfl⟩ : ∃ x y, its = [x, y] := len2 hl
    simp [partsE, partL]
  · obtain ⟨x, y, rfl⟩ : ∃ x y, its = [x, y] := len2 hl
    simp [partsE, partL]
  · obtain ⟨x, y, rfl⟩ : ∃ x y, its = [x, y] := len2 hl
    simp [partsE, partL]
  · obtain ⟨x, rfl⟩ : ∃ x, its = [x] := List.length_eq_one_iff.mp hl
    simp [partsE, partL]
  · obtain ⟨x, y, rfl⟩ : ∃ x y, its = [x, y] := len2 hl
    simp [partsE, partL]
theorem parts_E {w : W} {k sh : Str} {its : List W} (E : ExW w k sh its) : partsW w = partsE k its := by
  unfold partsW
  rw [E.row]
  simp only [E.shp]
  exact partsE_eq (shape_mem E.shp) E.len
/-- what holds of the parts holds of the kind's -/
theorem ExK.of_parts {g g' : W → Bool} {k : Str} {its : List W} (hx : ExK g k its) (h : ∀ p ∈ partsE k its, g' p = true) : ExK g' k its := by
  have hall : ∀ ps : List W, (∀ p ∈ ps, g' p = true) → ps.all g' = true := fun ps hp => List.all_eq_true.mpr hp
  cases hx with
  | lone k h' => exact .lone k h'
  | num i h' => exact .num i h'
  | txt s h' => exact .txt s h'
  | nam s h' => exact .nam s h'
  | lis x ps h1 hl hp => exact .lis x ps h1 hl (hall ps fun p hp' => h p (by simp [partsE, h1, hp']))
  | op k s a b hk hs ha hb => exact .op k s a b hk hs (h a (by rcases hk with rfl | rfl <;> simp [partsE])) (h b (by rcases hk with rfl | rfl <;> simp [partsE]))
  | bin k a b hk ha hb => exact .bin k a b hk (h a (by rcases hk with rfl | rfl | rfl <;> simp [partsE])) (h b (by rcases hk with rfl | rfl | rfl <;> simp [partsE]))
  | giv k s a hk hs ha => exact .giv k s a hk hs (h a (by rcases hk with rfl | rfl <;> simp [partsE]))
  | most i a h1 ha => exact .most i a h1 (h a (by simp [partsE]))
  | do_ x ps h1 h2 hl hp => exact .do_ x ps h1 h2 hl (hall ps fun p hp' => h p (by simp [partsE, h1, hp']))
  | call a x ps ha h1 hl hp => exact .call a x ps (h a (by simp [partsE])) h1 hl (hall ps fun p hp' => h p (by simp [partsE, h1, hp']))
  | oth k its hk h1 h3 hp =>
    obtain ⟨a1, a2, a3, a4⟩ := oth_not k hk
    refine .oth k its hk h1 h3 (hall its fun p hp' => h p ?_)
    unfold partsE
    rw [if_neg a1, if_neg a2, if_neg a3, if_neg a4]
    exact hp'
theorem isW_exk {r : Nat} {kept : Bool} {w : W} (h : isW (r + 1) kept w = true) : ∃ k sh its kept', ExW w k sh its ∧ ExK (isW r kept') k its := by
  obtain ⟨k, sh, its, E, hi⟩ := isW_ex h
  exact ⟨k, sh, its, _, E, exk_of (shape_mem E.shp) E.len hi⟩
end Sh

set_option Elab.async false
set_option linter.all false
set_option maxRecDepth 100000
set_option maxHeartbeats 4000000
namespace Sh
open PySem L2
variable {n : Nat} {S : Store}
theorem join_len2 {f : W → Str} {s : W → Nat} : ∀ {ps : List W}, (∀ p ∈ ps, (f p).length + 2 ≤ 40 * s p) → (joinS (ps.map f)).length ≤ 40 * (ps.map s).sum := by
  intro ps h
  have h1 := join_le (ps.map f)
  rw [List.map_map, List.length_map] at h1
  have key : ∀ ps : List W, (∀ p ∈ ps, (f p).length + 2 ≤ 40 * s p) → (ps.map ((fun x => x.length) ∘ f)).sum + ps.length * 2 ≤ 40 * (ps.map s).sum := by
    intro ps
    induction ps with
    | nil => intro _; simp
    | cons p ps ih =>
      intro h
      have h1 := h p (by simp)
      have h2 := ih fun q hq => h q (by simp [hq])
      simp only [List.map_cons, List.sum_cons, List.length_cons, Function.comp] at *
      omega
  exact Nat.le_trans h1 (key ps h)
theorem txtK_len {f : W → Str} {s : W → Nat} {g : W → Bool} {k : Str} {its : List W} (hx : ExK g k its) (h : ∀ p ∈ partsE k its, (f p).length + 2 ≤ 40 * s p) : (txtK f k its).length + 2 ≤ 40 * (1 + ((partsE k its).map s).sum) := by
  cases hx with
  | lone k h' =>
    obtain ⟨_, _, _, _, a5⟩ := alone_ne k h'
    unfold txtK
    rw [if_pos h']
    omega
  | num i h' =>
    have na : ("number" : Str) ∉ aloneL := by decide +kernel
    have e : txtK f "number" [.int i] = numS i := by
      unfold txtK
      rw [if_neg na, if_pos rfl]; rfl
    have := num_len h'
    rw [e]; omega
  | txt t h' =>
    have na : ("text" : Str) ∉ aloneL := by decide +kernel
    have e : txtK f "text" [.str t] = "'" ++ t ++ "'" := by
      unfold txtK
      rw [if_neg na, if_neg (by decide +kernel), if_pos rfl]; rfl
    have := wri_len h'
    rw [e]; simp [len_app]; omega
  | nam t h' =>
    have na : ("name" : Str) ∉ aloneL := by decide +kernel
    have e : txtK f "name" [.str t] = t := by
      unfold txtK
      rw [if_neg na, if_neg (by decide +kernel), if_neg (by decide +kernel), if_pos rfl]; rfl
    have := name_len h'
    rw [e]; omega
  | lis x ps h1 hl hp =>
    have na : ("list" : Str) ∉ aloneL := by decide +kernel
    have ep : partsE "list" [x] = ps := by simp [partsE, h1]
    rw [ep] at h ⊢
    have e : txtK f "list" [x] = "[" ++ joinS (ps.map f) ++ "]" := by
      unfold txtK
      rw [if_neg na, if_neg (by decide +kernel), if_neg (by decide +kernel), if_neg (by decide +kernel), if_pos rfl]
      simp [rowT, h1]
    have := join_len2 h
    rw [e]; simp [len_app]; omega
  | op k t a b hk hs ha hb =>
    have na : k ∉ aloneL := by rcases hk with rfl | rfl <;> decide +kernel
    have ep : partsE k [.str t, a, b] = [a, b] := by rcases hk with rfl | rfl <;> simp [partsE]
    rw [ep] at h ⊢
    have e : txtK f k [.str t, a, b] = pairS (f a) t (f b) := by
      unfold txtK
      rw [if_neg na]
      rcases hk with rfl | rfl
      · rw [if_neg (by decide +kernel), if_neg (by decide +kernel), if_neg (by decide +kernel), if_neg (by decide +kernel), if_pos (.inl rfl)]; rfl
      · rw [if_neg (by decide +kernel), if_neg (by decide +kernel), if_neg (by decide +kernel), if_neg (by decide +kernel), if_pos (.inr rfl)]; rfl
    have h1 := h a (by simp)
    have h2 := h b (by simp)
    rw [e]; simp [len_app, pairS]; omega
  | bin k a b hk ha hb =>
    have na : k ∉ aloneL := by rcases hk with rfl | rfl | rfl <;> decide +kernel
    have ep : partsE k [a, b] = [a, b] := by rcases hk with rfl | rfl | rfl <;> simp [partsE]
    rw [ep] at h ⊢
    have e : ∃ t : Str, t.length ≤ 2 ∧ txtK f k [a, b] = pairS (f a) t (f b) := by
      unfold txtK
      rw [if_neg na]
      rcases hk with rfl | rfl | rfl
      · refine ⟨"|", by decide +kernel, ?_⟩
        rw [if_neg (by decide +kernel), if_neg (by decide +kernel), if_neg (by decide +kernel), if_neg (by decide +kernel), if_neg (by decide +kernel), if_pos rfl]; rfl
      · refine ⟨"&", by decide +kernel, ?_⟩
        rw [if_neg (by decide +kernel), if_neg (by decide +kernel), if_neg (by decide +kernel), if_neg (by decide +kernel), if_neg (by decide +kernel), if_neg (by decide +kernel), if_pos rfl]; rfl
      · refine ⟨"to", by decide +kernel, ?_⟩
        rw [if_neg (by decide +kernel), if_neg (by decide +kernel), if_neg (by decide +kernel), if_neg (by decide +kernel), if_neg (by decide +kernel), if_neg (by decide +kernel), if_neg (by decide +kernel), if_pos rfl]; rfl
    obtain ⟨t, ht, e⟩ := e
    have h1 := h a (by simp)
    have h2 := h b (by simp)
    rw [e]; simp [len_app, pairS]; omega
  | giv k t a hk hs ha =>
    have na : k ∉ aloneL := by rcases hk with rfl | rfl <;> decide +kernel
    have ep : partsE k [.str t, a] = [a] := by rcases hk with rfl | rfl <;> simp [partsE]
    rw [ep] at h ⊢
    have e : ∃ z : Str, z.length ≤ 2 ∧ txtK f k [.str t, a] = pairS t z (f a) := by
      unfold txtK
      rw [if_neg na]
      rcases hk with rfl | rfl
      · refine ⟨":=", by decide +kernel, ?_⟩
        rw [if_neg (by decide +kernel), if_neg (by decide +kernel), if_neg (by decide +kernel), if_neg (by decide +kernel), if_neg (by decide +kernel), if_neg (by decide +kernel), if_neg (by decide +kernel), if_neg (by decide +kernel), if_pos rfl]; rfl
      · refine ⟨"<-", by decide +kernel, ?_⟩
        rw [if_neg (by decide +kernel), if_neg (by decide +kernel), if_neg (by decide +kernel), if_neg (by decide +kernel), if_neg (by decide +kernel), if_neg (by decide +kernel), if_neg (by decide +kernel), if_neg (by decide +kernel), if_neg (by decide +kernel), if_pos rfl]; rfl
    obtain ⟨z, hz, e⟩ := e
    have h1 := h a (by simp)
    have h2 := name_len hs
    rw [e]; simp [len_app, pairS]; omega
  | most i a h1 ha =>
    have e : txtK f "most" [.int i, a] = "most" ++ "(" ++ (numS i ++ ", " ++ f a) ++ ")" := by
      unfold txtK
      rw [if_neg (by decide +kernel), if_neg (by decide +kernel), if_neg (by decide +kernel), if_neg (by decide +kernel), if_neg (by decide +kernel), if_neg (by decide +kernel), if_neg (by decide +kernel), if_neg (by decide +kernel), if_neg (by decide +kernel), if_neg (by decide +kernel), if_neg (by decide +kernel)]
      rfl
    have ep : partsE "most" [.int i, a] = [a] := by simp [partsE]
    rw [ep] at h ⊢
    have h2 := h a (by simp)
    have h3 : (numS i).length ≤ 4 := num_len (by omega)
    rw [e]; simp [len_app]; omega
  | do_ x ps h1 h2 hl hp =>
    have e : txtK f "do" [x] = "do" ++ "(" ++ joinS (ps.map f) ++ ")" := by
      unfold txtK
      rw [if_neg (by decide +kernel), if_neg (by decide +kernel), if_neg (by decide +kernel), if_neg (by decide +kernel), if_neg (by decide +kernel), if_neg (by decide +kernel), if_neg (by decide +kernel), if_neg (by decide +kernel), if_neg (by decide +kernel), if_neg (by decide +kernel), if_neg (by decide +kernel)]
      unfold brK
      rw [if_neg (by decide +kernel), if_pos rfl]
      simp [rowT, h1]
    have ep : partsE "do" [x] = ps := by simp [partsE, h1]
    rw [ep] at h ⊢
    have := join_len2 h
    rw [e]; simp [len_app]; omega
  | call a x ps ha h1 hl hp =>
    have e : txtK f "call" [a, x] = "call" ++ "(" ++ joinS ((a :: ps).map f) ++ ")" := by
      unfold txtK
      rw [if_neg (by decide +kernel), if_neg (by decide +kernel), if_neg (by decide +kernel), if_neg (by decide +kernel), if_neg (by decide +kernel), if_neg (by decide +kernel), if_neg (by decide +kernel), if_neg (by decide +kernel), if_neg (by decide +kernel), if_neg (by decide +kernel), if_neg (by decide +kernel)]
      unfold brK
      rw [if_neg (by decide +kernel), if_neg (by decide +kernel), if_pos rfl]
      simp [h1]
    have ep : partsE "call" [a, x] = a :: ps := by simp [partsE, h1]
    rw [ep] at h ⊢
    have := join_len2 h
    rw [e]; simp [len_app] at this ⊢; omega
  | oth k its hk h1 h3 hp =>
    obtain ⟨o1, o2, o3, o4, o5, o6, o7, o8, o9, o10, o11, o12, o13, o14, o15, o16⟩ := oth_ne k hk
    obtain ⟨a1, a2, a3, a4⟩ := oth_not k hk
    have ep : partsE k its = its := by
      unfold partsE
      rw [if_neg a1, if_neg a2, if_neg a3, if_neg a4]
    rw [ep] at h ⊢
    have e : txtK f k its = k ++ "(" ++ joinS (its.map f) ++ ")" := by
      unfold txtK
      rw [if_neg o1, if_neg o2, if_neg o3, if_neg o4, if_neg o5, if_neg (fun z => z.elim o6 o7), if_neg o8, if_neg o9, if_neg o10, if_neg o11, if_neg o12]
      unfold brK
      rw [if_neg o13, if_neg o14, if_neg o15]
    have := join_len2 h
    rw [e]; simp [len_app]; omega
theorem txt_len : ∀ {r : Nat} {kept : Bool} {w : W}, isW r kept w = true → (txtW r w).length + 2 ≤ 40 * szW r w
  | 0, kept, w, h => by cases h
  | r + 1, kept, w, h => by
    obtain ⟨k, sh, its, kept', E, hx⟩ := isW_exk h
    obtain ⟨kept'', hp⟩ := parts_isW h
    have e : txtW (r + 1) w = txtK (txtW r) k its := by
      unfold txtW
      rw [E.row]
    have e2 : szW (r + 1) w = 1 + ((partsE k its).map (szW r)).sum := by
      simp only [szW, parts_E E]
    rw [e, e2]
    exact txtK_len hx fun p hp' => txt_len (hp p (by rw [parts_E E]; exact hp'))
end Sh

set_option Elab.async false
set_option linter.all false
set_option maxRecDepth 100000
set_option maxHeartbeats 4000000
namespace Sh
open PySem L2
variable {n : Nat} {S : Store}
theorem sum_mem {α : Type} {g : α → Nat} {x : α} : ∀ {xs : List α}, x ∈ xs → g x ≤ (xs.map g).sum
  | y :: ys, h => by
    simp only [List.map_cons, List.sum_cons]
    rcases List.mem_cons.mp h with rfl | h
    · omega
    · have := sum_mem (g := g) h; omega
theorem written_eq (hS : Clo S) : ∀ (r n : Nat) (w : W) (kept : Bool), 3 * r + 4 ≤ n → dtW w = true → isW r kept w = true → szW r w ≤ 1000 → F n .f_written [w] S = .ok (.str (txtW r w)) S
  | 0, n, w, kept, hn, hd, hw, hz => by cases hw
  | r + 1, n, w, kept, hn, hd, hw, hz => by
    obtain ⟨m, rfl⟩ : ∃ m, n = m + 3 := ⟨n - 3, by omega⟩
    obtain ⟨k, sh, its, kept', E, hx⟩ := isW_exk hw
    obtain ⟨kept'', hp⟩ := parts_isW hw
    have e2 : szW (r + 1) w = 1 + ((partsE k its).map (szW r)).sum := by
      simp only [szW, parts_E E]
    have e : txtW (r + 1) w = txtK (txtW r) k its := by
      unfold txtW
      rw [E.row]
    have hx' : ExK (fun p => isW r kept'' p && (dtW p && decide (szW r p ≤ 1000))) k its := hx.of_parts fun p hp' => by
      have h1 := sum_mem (g := szW r) hp'
      have hp2 : p ∈ partsW w := by rw [parts_E E]; exact hp'
      simp only [Bool.and_eq_true, decide_eq_true_eq]
      exact ⟨hp p hp2, parts_dt hd p hp2, by omega⟩
    have ih : ∀ j, 3 * r + 4 ≤ j → ∀ p, (isW r kept'' p && (dtW p && decide (szW r p ≤ 1000))) = true → F j .f_written [p] S = .ok (.str (txtW r p)) S := fun j hj p hg => by
      simp only [Bool.and_eq_true, decide_eq_true_eq] at hg
      exact written_eq hS r j p kept'' hj hg.2.1 hg.1 hg.2.2
    have cB : ∀ p, (isW r kept'' p && (dtW p && decide (szW r p ≤ 1000))) = true → (txtW r p).length ≤ 100000 := fun p hg => by
      simp only [Bool.and_eq_true, decide_eq_true_eq] at hg
      have := txt_len hg.1
      omega
    have hj : ∀ j, 3 * r + 4 ≤ j → ∀ u ps, rowW u = some ps → ps.length ≤ 100 → (∀ p ∈ ps, (isW r kept'' p && (dtW p && decide (szW r p ≤ 1000))) = true) → F (j + 1) .f_joined [u] S = .ok (.str (joinS (ps.map (txtW r)))) S := fun j hj u ps hu hl hg => by
      rw [F_joined]
      exact joined_eq hS hu hl (fun p hp => ih j hj p (hg p hp)) (fun p hp => cB p (hg p hp))
    rw [e, F_written]
    refine b_written_eq hS E.row hx' (ih (m + 2) (by omega)) cB (hj (m + 1) (by omega)) (fun a b c ha hb hc => pair_eq (n := m + 1) hS ha hb hc) (fun hk => ?_)
    rw [F_bracketed]
    exact bracketed_eq hS E.row hx' hk (ih (m + 1) (by omega)) cB (hj m (by omega))
end Sh

set_option Elab.async false
set_option linter.all false
set_option maxRecDepth 100000
set_option maxHeartbeats 4000000
namespace Sh
open PySem L2
variable {n : Nat} {S J : Store}
theorem law_texts_eq (hS : Clo S) {C : Fn → Cal} {u : W} {ps : List W} {f : W → Str} (hr : rowW u = some ps) (hl : ps.length ≤ 100) (hf : ∀ p ∈ ps, C .f__law_text [p] S = .ok (.str (f p)) S) (hB : ∀ p ∈ ps, (f p).length ≤ 100000) :
    runDef 1 2 (b__law_texts C) [u] S = .ok (.str (joinS (ps.map f))) S := by
  have hlc : eLc false (iE (eVar 0)) [1] (gVar 1) tYesM (eCall (C .f__law_text) [eVar 1]) [some u, none] S = .ok (.lst (ps.map fun p => W.str (f p))) S :=
    lc_map (m := false) (f := fun p => W.str (f p)) (iE_ok (w := u) (by simp) (row_iter hr)) (by simp; omega) (fun x hx => by simp [wipeE, hf x hx])
  have hsum := sum_le (g := fun p => (f p).length) (B := 100000) hB
  have hcond : (ps.map ((fun x => x.length) ∘ f)).sum + ps.length * 2 ≤ 16777216 := by
    have : (ps.map ((fun x => x.length) ∘ f)).sum = (ps.map fun p => (f p).length).sum := rfl
    rw [this]
    omega
  simp [b__law_texts, hlc, joinM, strsW_map, hcond, hS, joinS]
theorem num_str {i : Int} (h : -999 ≤ i ∧ i ≤ 999) : strN [W.int i] S = some (.str (numS i), S) := strN_num h
theorem app_assoc {a b c : Str} : a ++ b ++ c = a ++ (b ++ c) := by
  show Str.mk (a.cps ++ b.cps ++ c.cps) = Str.mk (a.cps ++ (b.cps ++ c.cps))
  rw [Array.append_assoc]
theorem s_or : (⟨#[32, 124, 32]⟩ : Str) = ⟨#[32]⟩ ++ (⟨#[124]⟩ ++ ⟨#[32]⟩) := rfl
theorem s_and : (⟨#[32, 38, 32]⟩ : Str) = ⟨#[32]⟩ ++ (⟨#[38]⟩ ++ ⟨#[32]⟩) := rfl
theorem s_to : (⟨#[32, 116, 111, 32]⟩ : Str) = ⟨#[32]⟩ ++ (⟨#[116, 111]⟩ ++ ⟨#[32]⟩) := rfl
theorem s_give : (⟨#[32, 58, 61, 32]⟩ : Str) = ⟨#[32]⟩ ++ (⟨#[58, 61]⟩ ++ ⟨#[32]⟩) := rfl
theorem s_lend : (⟨#[32, 60, 45, 32]⟩ : Str) = ⟨#[32]⟩ ++ (⟨#[60, 45]⟩ ++ ⟨#[32]⟩) := rfl
theorem s_most : (⟨#[109, 111, 115, 116, 40]⟩ : Str) = ⟨#[109, 111, 115, 116]⟩ ++ ⟨#[40]⟩ := rfl
theorem s_do : (⟨#[100, 111, 40]⟩ : Str) = ⟨#[100, 111]⟩ ++ ⟨#[40]⟩ := rfl
theorem s_call : (⟨#[99, 97, 108, 108, 40]⟩ : Str) = ⟨#[99, 97, 108, 108]⟩ ++ ⟨#[40]⟩ := rfl
theorem b_law_text_eq (hS : Clo S) {C : Fn → Cal} {w : W} {k : Str} {its : List W} {g : W → Bool} {f : W → Str} (hr : rowW w = some (.str k :: its)) (hx : ExK g k its)
    (c1 : ∀ p, g p = true → C .f__law_text [p] S = .ok (.str (f p)) S) (cB : ∀ p, g p = true → (f p).length ≤ 100000)
    (c2 : ∀ u ps, rowW u = some ps → ps.length ≤ 100 → (∀ p ∈ ps, g p = true) → C .f__law_texts [u] S = .ok (.str (joinS (ps.map f))) S) :
    runDef 1 3 (b__law_text C) [w] S = .ok (.str (txtK f k its)) S := by
  have h3 := fun (S : Store) (i : Nat) => row_get (S := S) (i := i) (G := gdT) hr
  have h30 := fun S => h3 S 0
  have h31 := fun S => h3 S 1
  have h32 := fun S => h3 S 2
  have h33 := fun S => h3 S 3
  simp at h30 h31 h32 h33
  cases hx with
  | lone k h =>
    have h' := h
    simp only [aloneL, List.mem_cons, List.not_mem_nil, or_false] at h'
    rcases h' with rfl | rfl | rfl
    · simp [b__law_text, h30, txtK, aloneL, hS]
    · simp [b__law_text, h30, txtK, aloneL, hS]
    · simp [b__law_text, h30, txtK, aloneL, hS]
  | num i h =>
    have na : ("number" : Str) ∉ aloneL := by decide +kernel
    simp at na
    simp at h31
    simp [b__law_text, h30, h31, na, txtK, hS, strN_num h, numI]
  | txt s h =>
    have na : ("text" : Str) ∉ aloneL := by decide +kernel
    simp at na
    have := wri_len h
    simp at h31
    simp [b__law_text, h30, h31, na, txtK, len_app, strI]
    simp (disch := omega) only [if_pos]
    simp [hS]
  | nam s h =>
    have na : ("name" : Str) ∉ aloneL := by decide +kernel
    simp at na
    simp at h31
    simp [b__law_text, h30, h31, na, txtK, hS, strI]
  | lis x ps h hl hp =>
    have na : ("list" : Str) ∉ aloneL := by decide +kernel
    simp at na
    have hc2 := c2 x ps h (by omega) (fun p hp' => List.all_eq_true.mp hp p hp')
    have hj := joinf_le (f := f) (ps := ps) (B := 100000) fun p hp' => cB p (List.all_eq_true.mp hp p hp')
    simp at h31
    simp [b__law_text, h30, h31, na, txtK, len_app, hc2, rowT, h]
    simp (disch := omega) only [if_pos]
    simp [hS]
  | op k s a b hk hs ha hb =>
    have na : ("op" : Str) ∉ aloneL ∧ ("test" : Str) ∉ aloneL := by decide +kernel
    simp at na
    have l1 := cB a ha
    have l2 := cB b hb
    simp at h31 h32 h33
    rcases hk with rfl | rfl
    all_goals
      simp [b__law_text, h30, h31, h32, h33, na, txtK, c1 a ha, c1 b hb, strI, len_app, pairS]
      simp (disch := omega) only [if_pos]
      simp [hS]
  | bin k a b hk ha hb =>
    have na : ("or" : Str) ∉ aloneL ∧ ("and" : Str) ∉ aloneL ∧ ("to" : Str) ∉ aloneL := by decide +kernel
    simp at na
    have l1 := cB a ha
    have l2 := cB b hb
    simp at h31 h32
    rcases hk with rfl | rfl | rfl
    all_goals
      simp [b__law_text, h30, h31, h32, na, txtK, c1 a ha, c1 b hb, strI, len_app, pairS, dicN3, get_dic3]
      simp (disch := omega) only [if_pos]
      simp [hS]
    all_goals simp only [s_or, s_and, s_to, app_assoc]
  | giv k s a hk hs ha =>
    have na : ("give" : Str) ∉ aloneL ∧ ("lend" : Str) ∉ aloneL := by decide +kernel
    simp at na
    have l1 := cB a ha
    have hn := name_len hs
    simp at h31 h32
    rcases hk with rfl | rfl
    all_goals
      simp [b__law_text, h30, h31, h32, na, txtK, c1 a ha, strI, len_app, pairS, dicN2, get_dic2]
      simp (disch := omega) only [if_pos]
      simp [hS]
    all_goals simp only [s_give, s_lend, app_assoc]
  | most i a h ha =>
    have na : ("most" : Str) ∉ aloneL := by decide +kernel
    simp at na
    have l1 := cB a ha
    have h4 : (numS i).length ≤ 4 := num_len (by omega)
    simp at h31 h32
    simp [b__law_text, h30, h31, h32, na, txtK, brK, numI, c1 a ha, len_app, strN_num (show -999 ≤ i ∧ i ≤ 999 by omega)]
    simp (disch := omega) only [if_pos]
    simp [hS]
    simp only [s_most, app_assoc]
  | do_ x ps h h1 hl hp =>
    have na : ("do" : Str) ∉ aloneL := by decide +kernel
    simp at na
    have hc2 := c2 x ps h (by omega) (fun p hp' => List.all_eq_true.mp hp p hp')
    have hj := joinf_le (f := f) (ps := ps) (B := 100000) fun p hp' => cB p (List.all_eq_true.mp hp p hp')
    simp at h31
    simp [b__law_text, h30, h31, na, txtK, brK, len_app, hc2, rowT, h]
    simp (disch := omega) only [if_pos]
    simp [hS]
    simp only [s_do, app_assoc]
  | call a x ps ha h hl hp =>
    have na : ("call" : Str) ∉ aloneL := by decide +kernel
    simp at na
    have hg : ∀ p ∈ a :: ps, g p = true := fun p hp' => by
      rcases List.mem_cons.mp hp' with rfl | hp'
      · exact ha
      · exact List.all_eq_true.mp hp p hp'
    have hc2 := c2 (.lst (a :: ps)) (a :: ps) rfl (by simp; omega) hg
    have hj := joinf_le (f := f) (ps := a :: ps) (B := 100000) fun p hp' => cB p (hg p hp')
    have hl2 : 1 + ps.length ≤ 16777216 := by omega
    simp at h31 h32 hc2 hj
    simp [b__law_text, h30, h31, h32, na, txtK, brK, len_app, row_list h, h]
    simp (disch := omega) only [if_pos]
    simp [hc2, hS]
    have l5 : (⟨#[99, 97, 108, 108, 40]⟩ : Str).length = 5 := rfl
    have e5 : (joinS (f a :: List.map f ps)).length ≤ 700000 := by
      have : (ps.length + 1) * (100000 + 2) ≤ 400008 := Nat.le_trans (Nat.mul_le_mul_right _ (show ps.length + 1 ≤ 4 by omega)) (by decide)
      omega
    rw [if_pos (by omega), if_pos (by rw [len_app]; omega)]
    simp only [s_call, app_assoc]
  | oth k its hk h1 h3 hp =>
    obtain ⟨o1, o2, o3, o4, o5, o6, o7, o8, o9, o10, o11, o12, o13, o14, o15, o16⟩ := oth_ne k hk
    have e : txtK f k its = k ++ "(" ++ joinS (its.map f) ++ ")" := by
      unfold txtK
      rw [if_neg o1, if_neg o2, if_neg o3, if_neg o4, if_neg o5, if_neg (by rintro (z | z); exact o6 z; exact o7 z), if_neg o8, if_neg o9, if_neg o10, if_neg o11, if_neg o12]
      unfold brK
      rw [if_neg o13, if_neg o14, if_neg o15]
    obtain ⟨u, hu1, hu2⟩ := row_cut (S := S) (lo := some 1) (hi := none) hr
    rw [cutL_1] at hu2
    have hc2 := c2 u its hu2 (by omega) (fun p hp' => List.all_eq_true.mp hp p hp')
    have hj := joinf_le (f := f) (ps := its) (B := 100000) fun p hp' => cB p (List.all_eq_true.mp hp p hp')
    simp only [aloneL, List.mem_cons, List.not_mem_nil, or_false, not_or] at o1
    obtain ⟨p1, p2, p3⟩ := o1
    rw [e]
    simp at o2 o3 o4 o5 o6 o7 o8 o9 o10 o11 o12 o13 o14 o15 p1 p2 p3
    simp [b__law_text, h30, o2, o3, o4, o5, o6, o7, o8, o9, o10, o11, o12, o13, o14, o15, p1, p2, p3, len_app, hu1, hc2]
    simp (disch := omega) only [if_pos]
    simp [hS]
theorem law_text_eq (hS : Clo S) : ∀ (r n : Nat) (w : W) (kept : Bool), 2 * r + 2 ≤ n → dtW w = true → isW r kept w = true → szW r w ≤ 1000 → F n .f__law_text [w] S = .ok (.str (txtW r w)) S
  | 0, n, w, kept, hn, hd, hw, hz => by cases hw
  | r + 1, n, w, kept, hn, hd, hw, hz => by
    obtain ⟨m, rfl⟩ : ∃ m, n = m + 2 := ⟨n - 2, by omega⟩
    obtain ⟨k, sh, its, kept', E, hx⟩ := isW_exk hw
    obtain ⟨kept'', hp⟩ := parts_isW hw
    have e2 : szW (r + 1) w = 1 + ((partsE k its).map (szW r)).sum := by
      simp only [szW, parts_E E]
    have e : txtW (r + 1) w = txtK (txtW r) k its := by
      unfold txtW
      rw [E.row]
    have hx' : ExK (fun p => isW r kept'' p && (dtW p && decide (szW r p ≤ 1000))) k its := hx.of_parts fun p hp' => by
      have h1 := sum_mem (g := szW r) hp'
      have hp2 : p ∈ partsW w := by rw [parts_E E]; exact hp'
      simp only [Bool.and_eq_true, decide_eq_true_eq]
      exact ⟨hp p hp2, parts_dt hd p hp2, by omega⟩
    have ih : ∀ j, 2 * r + 2 ≤ j → ∀ p, (isW r kept'' p && (dtW p && decide (szW r p ≤ 1000))) = true → F j .f__law_text [p] S = .ok (.str (txtW r p)) S := fun j hj p hg => by
      simp only [Bool.and_eq_true, decide_eq_true_eq] at hg
      exact law_text_eq hS r j p kept'' hj hg.2.1 hg.1 hg.2.2
    have cB : ∀ p, (isW r kept'' p && (dtW p && decide (szW r p ≤ 1000))) = true → (txtW r p).length ≤ 100000 := fun p hg => by
      simp only [Bool.and_eq_true, decide_eq_true_eq] at hg
      have := txt_len hg.1
      omega
    rw [e, F__law_text]
    refine b_law_text_eq hS E.row hx' (ih (m + 1) (by omega)) cB (fun u ps hu hl hg => ?_)
    rw [F__law_texts]
    exact law_texts_eq hS hu hl (fun p hp => ih m (by omega) p (hg p hp)) (fun p hp => cB p (hg p hp))
end Sh

set_option Elab.async false
set_option linter.all false
set_option maxRecDepth 100000
set_option maxHeartbeats 4000000
namespace Sh
open PySem L2
variable {n : Nat} {S : Store}
/-! ### the bag -/
structure Bag where
  zs : List Int
  cs : List Int
  gs : List Bool
  p : Int
  t : Int
  hl : gs.length = cs.length
def Bag.st (b : Bag) (T : Store) : Store := .lst (b.zs.map W.int) :: .lst (b.cs.map W.int) :: .lst (b.gs.map W.bl) :: .lst [.ref 1, .ref 2, .int b.p, .int b.t] :: T
variable {b b' : Bag} {T J : Store}
@[simp] theorem st_len : (b.st T).length = T.length + 4 := by simp [Bag.st]
@[simp] theorem st_app : b.st T ++ J = b.st (T ++ J) := rfl
@[simp] theorem st_1 : (b.st T)[1]? = some (.lst (b.cs.map W.int)) := rfl
@[simp] theorem st_2 : (b.st T)[2]? = some (.lst (b.gs.map W.bl)) := rfl
@[simp] theorem st_3 : (b.st T)[3]? = some (.lst [.ref 1, .ref 2, .int b.p, .int b.t]) := rfl
@[simp] theorem st_T {i : Nat} : (b.st T)[i + 4]? = T[i]? := rfl
@[simp] theorem st_set {i : Nat} {o : Ob} : (b.st T).set (i + 4) o = b.st (T.set i o) := rfl
theorem ints_low {n : Nat} : ∀ xs : List Int, lowWs n (xs.map W.int) = true := fun xs => lowWs_all.mpr fun q hq => by
  obtain ⟨z, _, rfl⟩ := List.mem_map.mp hq
  rfl
theorem bls_low {n : Nat} : ∀ xs : List Bool, lowWs n (xs.map W.bl) = true := fun xs => lowWs_all.mpr fun q hq => by
  obtain ⟨z, _, rfl⟩ := List.mem_map.mp hq
  rfl
/-- what stands behind the bag names nothing newer -/
def OkT (T : Store) : Prop := ∀ o ∈ T, lowO (T.length + 4) o = true
theorem clo_st (h : OkT T) : Clo (b.st T) := by
  rw [clo_iff, st_len]
  intro o ho
  simp only [Bag.st, List.mem_cons] at ho
  rcases ho with rfl | rfl | rfl | rfl | ho
  · exact ints_low _
  · exact ints_low _
  · exact bls_low _
  · simp [lowO, lowWs, lowW]
  · exact h o ho
theorem okT_nil : OkT [] := fun o ho => by cases ho
theorem okT_push {o : Ob} (h : OkT T) (ho : lowO (T.length + 5) o = true) : OkT (T ++ [o]) := by
  intro x hx
  have e : (T ++ [o]).length = T.length + 1 := by simp
  rw [e]
  rcases List.mem_append.mp hx with hx | hx
  · exact lowO_mono (by omega) (h x hx)
  · rw [List.mem_singleton.mp hx]; exact ho
/-- a def's end over the bag -/
theorem cut_st {w : W} (h : OkT T) (hw : lowW (T.length + 4) w = true) : cutR (b.st T) w (b'.st (T ++ J)) = .ok w (b'.st T) := by
  unfold cutR
  have e : (b'.st T).length = (b.st T).length := by simp
  rw [fzD_low (by rw [st_len]; exact hw)]
  have h1 : okS (b.st T).length (b'.st (T ++ J)) = true := by
    rw [← e, ← st_app, okS_app]; exact clo_st h
  simp only [h1, if_true]
  rw [← e, ← st_app, List.take_left]
theorem cut_st0 {w : W} (h : OkT T) (hw : lowW (T.length + 4) w = true) : cutR (b.st T) w (b'.st T) = .ok w (b'.st T) := by
  have := cut_st (b := b) (b' := b') (J := []) h hw
  simpa using this
theorem cut_st_lst {ws : List W} (h : OkT T) (hw : lowWs (T.length + 4) ws = true) : cutR (b.st T) (.ref (T.length + 4)) (b'.st (T ++ .lst ws :: J)) = .ok (.lst ws) (b'.st T) := by
  unfold cutR
  have e : (b'.st T).length = (b.st T).length := by simp
  have hx : (b'.st (T ++ .lst ws :: J))[T.length + 4]? = some (.lst ws) := by rw [st_T]; exact top_get
  rw [st_len, fzD_ref (ws := ws) (Nat.lt_irrefl _) hx hw]
  have h1 : okS (T.length + 4) (b'.st (T ++ .lst ws :: J)) = true := by
    have e2 : T.length + 4 = (b'.st T).length := by simp
    rw [e2, ← st_app, okS_app]; exact clo_st h
  simp only [h1, if_true]
  have e2 : T.length + 4 = (b'.st T).length := by simp
  rw [e2, ← st_app, List.take_left]
/-! ### a draw -/
@[simp] theorem len_cs : lenN [.ref 1] (b.st T) = some (.int b.cs.length, b.st T) := by
  show some (W.int ((b.cs.map W.int).length : Nat), _) = _
  rw [List.length_map]
@[simp] theorem get_bag {i : Int} : getW gdT (.ref 3) (.int i) (b.st T) = (atI [W.ref 1, .ref 2, .int b.p, .int b.t] i).map fun w => (w, b.st T) := rfl
@[simp] theorem get_cs {i : Int} : getW gdT (.ref 1) (.int i) (b.st T) = (atI (b.cs.map W.int) i).map fun w => (w, b.st T) := rfl
@[simp] theorem get_gs {i : Int} : getW gdT (.ref 2) (.int i) (b.st T) = (atI (b.gs.map W.bl) i).map fun w => (w, b.st T) := rfl
@[simp] theorem set_t {v : Int} : setW (.ref 3) (.int 3) (.int v) (b.st T) = some (({ b with t := v } : Bag).st T) := rfl
@[simp] theorem set_p {v : Int} : setW (.ref 3) (.int 2) (.int v) (b.st T) = some (({ b with p := v } : Bag).st T) := rfl
theorem set_cs {j : Nat} (h : j < b.cs.length) {v : Int} : setW (.ref 1) (.int j) (.int v) (b.st T) = some (({ b with cs := b.cs.set j v, hl := by simp [b.hl] } : Bag).st T) := by
  show ((ixN (b.cs.map W.int).length j).map fun j => (b.st T).set 1 (.lst ((b.cs.map W.int).set j (.int v)))) = _
  rw [List.length_map, ixN_n h]
  simp [Bag.st, List.map_set]
theorem set_gs {j : Nat} (h : j < b.gs.length) {v : Bool} : setW (.ref 2) (.int j) (.bl v) (b.st T) = some (({ b with gs := b.gs.set j v, hl := by simp [b.hl] } : Bag).st T) := by
  show ((ixN (b.gs.map W.bl).length j).map fun j => (b.st T).set 2 (.lst ((b.gs.map W.bl).set j (.bl v)))) = _
  rw [List.length_map, ixN_n h]
  simp [Bag.st, List.map_set]
theorem mixed_eq (hS : Clo S) {c t : Int} : ∃ r : Int, F (n + 1) .f__law_mixed [.int c, .int t] S = .ok (.int r) S := by
  have h0 : ∀ x : Int, 0 ≤ x % 2147483647 ∧ x % 2147483647 < 2147483647 := fun x => ⟨Int.emod_nonneg _ (by decide), Int.emod_lt_of_pos _ (by decide)⟩
  rw [F__law_mixed]
  simp [b__law_mixed]
  generalize (c % 2147483647 + 7919 * t + 1) * 48271 = x
  have h1 := h0 x
  generalize x % 2147483647 = y at h1
  rw [if_pos (.inl (by omega))]
  generalize y * (y / 1009 + 69621) = u
  have h2 := h0 u
  generalize u % 2147483647 = v at h2
  rw [if_pos (.inl (by omega))]
  simp [hS]
theorem draw_eq (hT : OkT T) {k : Nat} (hk : 0 < k) (hk2 : k < 1000000) : ∃ (r : Nat) (b' : Bag), F (n + 2) .f__law_draw [.ref 3, .int k] (b.st T) = .ok (.int r) (b'.st T) ∧ r < k := by
  have hmod : ∀ x : Int, ∃ r : Nat, x % (k : Int) = r ∧ r < k := fun x => by
    have h1 := Int.emod_nonneg x (b := (k : Int)) (by omega)
    have h2 := Int.emod_lt_of_pos x (b := (k : Int)) (by omega)
    exact ⟨(x % (k : Int)).toNat, by omega, by omega⟩
  have hcut : ∀ (b b' : Bag) (r : Int), cutR (b.st T) (.int r) (b'.st T) = .ok (.int r) (b'.st T) := fun b b' r => cut_st0 hT rfl
  have hk3 : (0 : Int) < k := by omega
  have hk4 : (k : Int) < 1073741824 := by omega
  obtain ⟨zs, cs, gs, p, t, hl⟩ := b
  rw [F__law_draw]
  by_cases h0 : cs = []
  · subst h0
    obtain ⟨q, hq⟩ := mixed_eq (n := n) (clo_st (b := ⟨zs, [], gs, p, t + 1, hl⟩) hT) (c := 0) (t := t + 1)
    obtain ⟨r, hr, hrk⟩ := hmod q
    refine ⟨r, ⟨zs, [], gs, p, t + 1, hl⟩, ?_, hrk⟩
    simp [b__law_draw, hq, hk, hr, hcut]
  · have h0' : ¬ cs.length = 0 := fun h => h0 (List.length_eq_zero_iff.mp h)
    have hlp : 0 < cs.length := by omega
    obtain ⟨j, hj, hjl⟩ : ∃ j : Nat, p % (cs.length : Int) = j ∧ j < cs.length := by
      have h1 := Int.emod_nonneg p (b := (cs.length : Int)) (by omega)
      have h2 := Int.emod_lt_of_pos p (b := (cs.length : Int)) (by omega)
      exact ⟨(p % (cs.length : Int)).toNat, by omega, by omega⟩
    have hjg : j < gs.length := by rw [hl]; exact hjl
    obtain ⟨c, hc⟩ : ∃ c, cs[j]? = some c := ⟨_, List.getElem?_eq_getElem hjl⟩
    obtain ⟨g, hg⟩ : ∃ g, gs[j]? = some g := ⟨_, List.getElem?_eq_getElem hjg⟩
    have e1 : ∀ b : Bag, b.cs = cs → getW gdT (.ref 1) (.int j) (b.st T) = some (.int c, b.st T) := fun b hb => by
      rw [get_cs, hb, atI_n, List.getElem?_map, hc]; rfl
    have e2 : ∀ b : Bag, b.gs = gs → getW gdT (.ref 2) (.int j) (b.st T) = some (.bl g, b.st T) := fun b hb => by
      rw [get_gs, hb, atI_n, List.getElem?_map, hg]; rfl
    have e1' := e1 ⟨zs, cs, gs, p, t + 1, hl⟩ rfl
    have e2' := e2 ⟨zs, cs, gs, p, t + 1, hl⟩ rfl
    obtain ⟨r, hr, hrk⟩ := hmod c
    cases g with
    | true =>
      obtain ⟨d, hd⟩ : ∃ d, c / (k : Int) = d := ⟨_, rfl⟩
      have s1 := set_cs (b := ⟨zs, cs, gs, p, t + 1, hl⟩) (T := T) hjl (v := d)
      have hl1 : gs.length = (cs.set j d).length := by simp [hl]
      have e3 : getW gdT (.ref 1) (.int j) (Bag.st ⟨zs, cs.set j d, gs, p, t + 1, hl1⟩ T) = some (.int d, Bag.st ⟨zs, cs.set j d, gs, p, t + 1, hl1⟩ T) := by
        rw [get_cs, atI_n, List.getElem?_map, List.getElem?_set_self hjl]; rfl
      have s2 := set_gs (b := ⟨zs, cs.set j d, gs, p, t + 1, hl1⟩) (T := T) hjg (v := false)
      have hl2 : (gs.set j false).length = (cs.set j d).length := by simp [hl]
      by_cases hz : d = 0
      · subst hz
        refine ⟨r, ⟨zs, cs.set j 0, gs.set j false, p + 1, t + 1, hl2⟩, ?_, hrk⟩
        simp [-get_cs, -get_gs, b__law_draw, h0, hlp, hj, e1', e2', hk, hk4, hd, s1, s2, e3, hr, hcut]
      · refine ⟨r, ⟨zs, cs.set j d, gs, p, t + 1, hl1⟩, ?_, hrk⟩
        simp [-get_cs, -get_gs, b__law_draw, h0, hlp, hj, e1', e2', hk, hk4, hd, s1, e3, hz, hr, hcut]
    | false =>
      obtain ⟨q, hq⟩ := mixed_eq (n := n) (clo_st (b := ⟨zs, cs, gs, p + 1, t + 1, hl⟩) hT) (c := c) (t := t + 1)
      obtain ⟨r, hr, hrk⟩ := hmod q
      refine ⟨r, ⟨zs, cs, gs, p + 1, t + 1, hl⟩, ?_, hrk⟩
      simp [-get_cs, -get_gs, b__law_draw, h0, hlp, hj, e1', e2', hk, hr, hq, hcut]
end Sh

set_option Elab.async false
set_option linter.all false
set_option maxRecDepth 100000
set_option maxHeartbeats 4000000
namespace Sh
open PySem L2
variable {n : Nat} {S : Store} {b b' : Bag} {T J : Store}
/-! ### a comprehension whose turns go through states -/
theorem lc_fam {σ : Type} (st : σ → Store) {m : Bool} {it : IM} {own : List Nat} {v : Nat} {a : EM} {e : En} (P : W → Prop) (N : Nat) (hN : N ≤ 16777216) (s0 : σ) (hi : it e (st s0) = .ok (itR 0 N) (st s0))
    (step : ∀ i s, i < N → ∃ w s', a ((wipeE e own).set v (some (.int (i : Nat)))) (st s) = .ok w (st s') ∧ P w) :
    ∃ ws s', eLc m it own (gVar v) tYesM a e (st s0) = .ok (mkL m ws (st s')).1 (mkL m ws (st s')).2 ∧ ws.length = N ∧ ∀ w ∈ ws, P w := by
  obtain ⟨ws, S', h1, s', rfl, h2, h3, h4⟩ := lc_inv (m := m) (it := it) (own := own) (g := gVar v) (t := tYesM) (a := a) (e := e) (S := st s0)
    (fun i acc S => ∃ s, S = st s ∧ acc.length = i ∧ i ≤ N ∧ ∀ w ∈ acc, P w) N (by have := fuel_ge; omega) hi ⟨s0, rfl, rfl, Nat.zero_le _, by simp⟩ (fun i acc S h => by obtain ⟨_, _, _, h, _⟩ := h; exact h) (by
    rintro i acc S ⟨s, rfl, rfl, hle, hP⟩
    by_cases hlt : acc.length < N
    · obtain ⟨w, s', hw, hp⟩ := step acc.length s hlt
      refine .inr ⟨.int (acc.length : Nat), _, _, true, _, by rw [itR_lt hlt]; simp, rfl, rfl, .inr ⟨rfl, w, _, hw, by simp; omega, s', rfl, by simp, hlt, ?_⟩⟩
      intro x hx
      rcases List.mem_append.mp hx with hx | hx
      · exact hP x hx
      · rw [List.mem_singleton.mp hx]; exact hp
    · exact .inl ⟨itR_ge hlt, by omega⟩)
  exact ⟨ws, s', h1, h2, h4⟩
/-! ### texts that are joined with nothing between -/
theorem join_app_nil (a : Str) : a ++ Str.empty = a := by
  cases a with
  | mk c => show Str.mk (c ++ #[]) = Str.mk c; simp
theorem join_chr : ∀ cs : List Nat, Txt.join (⟨#[]⟩ : Str) (cs.map fun c => (⟨#[c]⟩ : Str)) = ⟨cs.toArray⟩ := by
  intro cs
  show PySem.Txt.join _ _ = _
  rw [show ∀ (a : Str) xs, PySem.Txt.join a xs = PySem.Str.join a xs from fun a xs => PySem.StrLaws.glued_eq_join ..]
  induction cs with
  | nil => rfl
  | cons c cs ih =>
    cases cs with
    | nil => rfl
    | cons d cs =>
      show (⟨#[c]⟩ : Str) ++ ⟨#[]⟩ ++ PySem.Str.join ⟨#[]⟩ (List.map (fun c => (⟨#[c]⟩ : Str)) (d :: cs)) = _
      rw [ih]
      show (⟨#[c] ++ #[] ++ (d :: cs).toArray⟩ : Str) = _
      simp
theorem strsW_chr : ∀ cs : List Nat, strsW (cs.map chrW) = some (cs.map fun c => (⟨#[c]⟩ : Str))
  | [] => rfl
  | c :: cs => by simp [strsW, chrW, strsW_chr cs]
theorem chr_list {P : Nat → Prop} : ∀ {ws : List W}, (∀ w ∈ ws, ∃ c, w = chrW c ∧ P c) → ∃ cs : List Nat, ws = cs.map chrW ∧ ∀ c ∈ cs, P c
  | [], _ => ⟨[], rfl, by simp⟩
  | w :: ws, h => by
    obtain ⟨c, rfl, hc⟩ := h w (by simp)
    obtain ⟨cs, rfl, h2⟩ := chr_list (ws := ws) (P := P) fun x hx => h x (by simp [hx])
    exact ⟨c :: cs, rfl, fun x hx => by
      rcases List.mem_cons.mp hx with rfl | hx
      · exact hc
      · exact h2 x hx⟩
theorem sum_chr (cs : List Nat) : ((cs.map fun c => (⟨#[c]⟩ : Str)).map (·.length)).sum = cs.length := by
  induction cs with
  | nil => rfl
  | cons c cs ih => simp only [List.map_cons, List.sum_cons, ih, List.length_cons]; show 1 + _ = _; omega
/-- "".join([z[draw] for ..]) -/
theorem draws_join {it : IM} {own : List Nat} {v : Nat} {a : EM} {e : En} (P : Nat → Prop) (N : Nat) (hN : N ≤ 1000) (hi : it e (b.st T) = .ok (itR 0 N) (b.st T))
    (step : ∀ i (b : Bag), i < N → ∃ (c : Nat) (b' : Bag), a ((wipeE e own).set v (some (.int (i : Nat)))) (b.st T) = .ok (chrW c) (b'.st T) ∧ P c) :
    ∃ (cs : List Nat) (b' : Bag), (eLc false it own (gVar v) tYesM a e (b.st T)).bind (fun x S1 => lift (joinM (.str ⟨#[]⟩) [x] S1)) = .ok (.str ⟨cs.toArray⟩) (b'.st T) ∧ cs.length = N ∧ ∀ c ∈ cs, P c := by
  obtain ⟨ws, b', h1, h2, h3⟩ := lc_fam (fun b : Bag => b.st T) (m := false) (it := it) (own := own) (v := v) (a := a) (e := e) (fun w => ∃ c, w = chrW c ∧ P c) N (by omega) b hi (fun i s h => by
    obtain ⟨c, b', h1, h2⟩ := step i s h
    exact ⟨_, b', h1, c, rfl, h2⟩)
  obtain ⟨cs, rfl, hcs⟩ := chr_list h3
  rw [List.length_map] at h2
  refine ⟨cs, b', ?_, h2, hcs⟩
  rw [h1]
  simp only [mkL_f, R.bind_ok]
  rw [join_lst (strsW_chr cs), sum_chr, if_pos (by simp; omega), join_chr]
  rfl
theorem join_ret' {c : EM} {e : En} {b0 : Bag} {x : Str} (hT : OkT T) (h : (c e (b.st T)).bind (fun x S1 => lift (joinM (.str ⟨#[]⟩) [x] S1)) = .ok (.str x) (b'.st T)) :
    RS.fin (b0.st T) (sRet (eMeth "str" joinM (eC (.str ⟨#[]⟩)) [c]) e (b.st T)) = .ok (.str x) (b'.st T) := by
  have e1 : eMeth "str" joinM (eC (.str ⟨#[]⟩)) [c] e (b.st T) = .ok (.str x) (b'.st T) := by
    rw [eMeth_ap, eC_ap, R.bind_ok, ty_strv, if_pos rfl, evs_cons, ← h]
    cases c e (b.st T) <;> rfl
  rw [sRet_ap, e1, R.thn_ok, fin_ret]
  exact cut_st0 hT rfl
theorem join_ret {c : EM} {x : Str} {m : Nat} {ws : List W} (hT : OkT T) (hw : ws.length = m) {k : Nat} {e : En} (he : e = startE k ws) (h : (c e (b.st T)).bind (fun x S1 => lift (joinM (.str ⟨#[]⟩) [x] S1)) = .ok (.str x) (b'.st T)) :
    runDef m k (sRet (eMeth "str" joinM (eC (.str ⟨#[]⟩)) [c])) ws (b.st T) = .ok (.str x) (b'.st T) := by
  rw [run_fin hw, ← he]
  exact join_ret' hT h
/-! ### letters, written -/
def lettB (x : Str) : Bool := (decide (1 ≤ x.length) && decide (x.length ≤ 8)) && x.cps.toList.all letterB
def abcS : Str := "abcdefghijklmnopqrstuvwxyz"
theorem abc_ok : abcS.cps.toList.all letterB = true ∧ abcS.cps.toList.length = 26 ∧ abcS.length ≤ 16777216 := by decide +kernel
theorem abc_step (hT : OkT T) {e : En} (h0 : e[0]? = some (some (.ref 3))) (b : Bag) : ∃ (c : Nat) (b' : Bag), e2 (getW gdT) (eC (.str abcS)) (eCall (F (n + 2) .f__law_draw) [eVar 0, eC (.int 26)]) e (b.st T) = .ok (chrW c) (b'.st T) ∧ letterB c = true := by
  obtain ⟨a1, a2, a3⟩ := abc_ok
  generalize abcS = z at a1 a2 a3
  obtain ⟨r, b', h1, h2⟩ := draw_eq (n := n) (b := b) hT (k := 26) (by decide) (by decide)
  obtain ⟨c, hc⟩ : ∃ c, z.cps.toList[r]? = some c := ⟨_, List.getElem?_eq_getElem (by rw [a2]; exact h2)⟩
  refine ⟨c, b', ?_, List.all_eq_true.mp a1 c (List.mem_of_getElem? hc)⟩
  have h1 : F (n + 2) .f__law_draw [.ref 3, .int 26] (b.st T) = .ok (.int r) (b'.st T) := h1
  have hg : getW gdT (.str z) (.int r) (b'.st T) = some (chrW c, b'.st T) := by
    rw [get_str, if_pos (show z.length ≤ sizeLine from a3), atI_n, hc]; rfl
  simp only [e2_ap, eC_ap, R.bind_ok, eCall_ap, evs_cons, evs_nil, eVar_ap, h0, h1, hg, lift_some]
theorem letters_eq (hT : OkT T) {k : Nat} (h1 : 1 ≤ k) (h8 : k ≤ 8) : ∃ (x : Str) (b' : Bag), F (n + 3) .f__law_letters [.ref 3, .int k] (b.st T) = .ok (.str x) (b'.st T) ∧ lettB x = true := by
  obtain ⟨cs, b', e1, e2, e3⟩ := draws_join (b := b) (T := T) (it := iRange1 (eVar 1)) (own := [2]) (v := 2) (a := e2 (getW gdT) (eC (.str abcS)) (eCall (F (n + 2) .f__law_draw) [eVar 0, eC (.int 26)])) (e := [some (.ref 3), some (.int k), none])
    (fun c => letterB c = true) k (by omega) (iRange1_ok (n := k) rfl (by omega)) (fun i b hi => abc_step hT rfl b)
  have hl : lettB ⟨cs.toArray⟩ = true := by
    simp only [lettB, Bool.and_eq_true, decide_eq_true_eq]
    have : (⟨cs.toArray⟩ : Str).length = cs.length := by simp
    exact ⟨⟨by omega, by omega⟩, List.all_eq_true.mpr fun c hc => e3 c (by simpa using hc)⟩
  refine ⟨⟨cs.toArray⟩, b', ?_, hl⟩
  rw [F__law_letters]
  have hb : b__law_letters (F (n + 2)) = sRet (eMeth "str" joinM (eC (.str ⟨#[]⟩)) [eLc false (iRange1 (eVar 1)) [2] (gVar 2) tYesM (Sh.e2 (getW gdT) (eC (.str abcS)) (eCall (F (n + 2) .f__law_draw) [eVar 0, eC (.int 26)]))]) := rfl
  rw [hb]
  exact join_ret hT rfl rfl e1
def wriS : Str := " !\"#$&()*+,-./0123456789:;<=>?@ABCDEFGHIJKLMNOPQRSTUVWXYZ[\\]^_`abcdefghijklmnopqrstuvwxyz{|}~"
theorem wri_ok : wriS.cps.toList.all signB = true ∧ wriS.length = 93 ∧ wriS.length ≤ 16777216 := by decide +kernel
theorem wri_step (hT : OkT T) {e : En} (h0 : e[0]? = some (some (.ref 3))) (h1 : e[1]? = some (some (.str wriS))) (b : Bag) : ∃ (c : Nat) (b' : Bag), e2 (getW gdT) (eVar 1) (eCall (F (n + 2) .f__law_draw) [eVar 0, eN lenN [eVar 1]]) e (b.st T) = .ok (chrW c) (b'.st T) ∧ signB c = true := by
  obtain ⟨a1, a2, a3⟩ := wri_ok
  generalize wriS = z at a1 a2 a3 h1
  obtain ⟨r, b', g1, g2⟩ := draw_eq (n := n) (b := b) hT (k := z.length) (by omega) (by omega)
  obtain ⟨c, hc⟩ : ∃ c, z.cps.toList[r]? = some c := ⟨_, List.getElem?_eq_getElem (by rw [len_cps]; exact g2)⟩
  refine ⟨c, b', ?_, List.all_eq_true.mp a1 c (List.mem_of_getElem? hc)⟩
  have hg : getW gdT (.str z) (.int r) (b'.st T) = some (chrW c, b'.st T) := by
    rw [get_str, if_pos (show z.length ≤ sizeLine from a3), atI_n, hc]; rfl
  have hl : lenN [.str z] (b.st T) = some (.int z.length, b.st T) := by
    rw [len_str, if_pos (show z.length ≤ sizeLine from a3)]
  simp only [e2_ap, eC_ap, R.bind_ok, eCall_ap, eN_ap, evs_cons, evs_nil, eVar_ap, h0, h1, hl, g1, hg, lift_some]
theorem written_law_eq (hT : OkT T) : ∃ (x : Str) (b' : Bag), F (n + 3) .f__law_written [.ref 3] (b.st T) = .ok (.str x) (b'.st T) ∧ writtenB (.str x) = true := by
  have main : ∀ (b0 b : Bag) (k : Nat), k ≤ 20 → ∃ (x : Str) (b' : Bag), RS.fin (b0.st T) (sRet (eMeth "str" joinM (eC (.str ⟨#[]⟩)) [eLc false (iRange1 (eVar 2)) [3] (gVar 3) tYesM (Sh.e2 (getW gdT) (eVar 1) (eCall (F (n + 2) .f__law_draw) [eVar 0, eN lenN [eVar 1]]))]) [some (.ref 3), some (.str wriS), some (.int k), none] (b.st T)) = .ok (.str x) (b'.st T) ∧ writtenB (.str x) = true := fun b0 b k h20 => by
    obtain ⟨cs, b', e1, e2, e3⟩ := draws_join (b := b) (T := T) (it := iRange1 (eVar 2)) (own := [3]) (v := 3) (a := e2 (getW gdT) (eVar 1) (eCall (F (n + 2) .f__law_draw) [eVar 0, eN lenN [eVar 1]])) (e := [some (.ref 3), some (.str wriS), some (.int k), none])
      (fun c => signB c = true) k (by omega) (iRange1_ok (n := k) rfl (by omega)) (fun i b hi => wri_step hT rfl rfl b)
    refine ⟨⟨cs.toArray⟩, b', join_ret' hT e1, ?_⟩
    simp only [writtenB, Bool.and_eq_true, decide_eq_true_eq]
    have : (⟨cs.toArray⟩ : Str).length = cs.length := by simp
    exact ⟨by omega, List.all_eq_true.mpr fun c hc => e3 c (by simpa using hc)⟩
  obtain ⟨k, b1, d1, hk⟩ := draw_eq (n := n) (b := b) hT (k := 6) (by decide) (by decide)
  obtain ⟨j, b2, d2, hj⟩ := draw_eq (n := n) (b := b1) hT (k := 21) (by decide) (by decide)
  have d1 : F (n + 2) .f__law_draw [.ref 3, .int 6] (b.st T) = .ok (.int k) (b1.st T) := d1
  have d2 : F (n + 2) .f__law_draw [.ref 3, .int 21] (b1.st T) = .ok (.int j) (b2.st T) := d2
  rw [F__law_written]
  have hb : b__law_written (F (n + 2)) = sSeq (sSet 1 (eC (.str wriS))) (sSeq (sSet 2 (eCall (F (n + 2) .f__law_draw) [(eVar 0), (eC (.int 6))]))
    (sSeq (sIf (tB (e2 eqW (eVar 2) (eC (.int 5)))) (sSet 2 (eCall (F (n + 2) .f__law_draw) [(eVar 0), (eC (.int 21))])) sNil)
    (sRet (eMeth "str" joinM (eC (.str ⟨#[]⟩)) [eLc false (iRange1 (eVar 2)) [3] (gVar 3) tYesM (Sh.e2 (getW gdT) (eVar 1) (eCall (F (n + 2) .f__law_draw) [eVar 0, eN lenN [eVar 1]]))])))) := rfl
  rw [hb]
  generalize hm : sRet (eMeth "str" joinM (eC (.str ⟨#[]⟩)) [eLc false (iRange1 (eVar 2)) [3] (gVar 3) tYesM (Sh.e2 (getW gdT) (eVar 1) (eCall (F (n + 2) .f__law_draw) [eVar 0, eN lenN [eVar 1]]))]) = M at main
  by_cases h5 : k = 5
  · obtain ⟨x, b', h1, h2⟩ := main b b2 j (by omega)
    refine ⟨x, b', ?_, h2⟩
    simp [d1, d2, h5, h1]
  · obtain ⟨x, b', h1, h2⟩ := main b b1 k (by omega)
    refine ⟨x, b', ?_, h2⟩
    simp [d1, h5, h1]
    omega
end Sh

set_option Elab.async false
set_option linter.all false
set_option maxRecDepth 100000
set_option maxHeartbeats 4000000
namespace Sh
open PySem L2
variable {n : Nat} {S : Store} {b b' : Bag} {T J : Store}
theorem words_low {n : Nat} : lowWs n (wordsL.map W.str) = true := low_strs
theorem law_words_eq (hS : Clo S) : F (n + 1) .f__law_words [] S = .ok (.lst (wordsL.map W.str)) S := by
  rw [F__law_words]
  simp [b__law_words]
  exact cut_self hS rfl
theorem cut_all {p : Nat → Bool} {x : Str} {lo hi : Option Int} (h : x.cps.toList.all p = true) : (cutS x lo hi).cps.toList.all p = true := by
  unfold cutS
  simp only [List.all_eq_true] at h ⊢
  intro c hc
  exact h c (List.mem_of_mem_drop (List.mem_of_mem_take hc))
theorem cut1_len {x : Str} (h : 1 ≤ x.length) : (cutS x none (some 1)).length = 1 := by
  unfold cutS
  rw [len_mk, HT.sIx_none, List.drop_zero, List.length_take, len_cps]
  have : HT.sIx x.length x.length (some 1) = min 1 x.length := HT.sIx_nat x.length x.length 1
  omega
theorem cut6_len {x : Str} : (cutS x none (some 6)).length ≤ 6 := by
  unfold cutS
  rw [len_mk, HT.sIx_none, List.drop_zero, List.length_take, len_cps]
  have : HT.sIx x.length x.length (some 6) = min 6 x.length := HT.sIx_nat x.length x.length 6
  omega
theorem app_all {p : Nat → Bool} {x y : Str} (hx : x.cps.toList.all p = true) (hy : y.cps.toList.all p = true) : (x ++ y).cps.toList.all p = true := by
  show (Array.append x.cps y.cps).toList.all p = true
  have : (Array.append x.cps y.cps).toList = x.cps.toList ++ y.cps.toList := Array.toList_append
  rw [this, List.all_append, hx, hy]; rfl
theorem words_fact : ∀ w ∈ wordsL, (cutS w none (some 7) = w ∧ w.length ≤ 7 ∧ w.cps.toList.all letterB = true) ∧ lettB (cutS w none (some (-1))) = true ∧ nameB (.str ((⟨#[122]⟩ : Str) ++ cutS w (some 1) none)) = true ∧ w.length + 1 ≤ 16777216 := by decide +kernel
theorem nameB_lett {x : Str} (h : lettB x = true) (hx : x ∉ wordsL) : nameB (.str x) = true := by
  simp only [lettB, Bool.and_eq_true, decide_eq_true_eq] at h
  simp only [nameB, Bool.and_eq_true, decide_eq_true_eq, Bool.not_eq_true', decide_eq_false_iff_not]
  exact ⟨h.1, h.2, hx⟩
theorem nameB_len {x : Str} (h : nameB (.str x) = true) : 1 ≤ x.length ∧ x.length ≤ 8 := by
  simp only [nameB, Bool.and_eq_true, decide_eq_true_eq] at h
  exact h.1
theorem consts_lett : lettB ⟨#[120]⟩ = true ∧ lettB ⟨#[121]⟩ = true ∧ lettB ⟨#[110]⟩ = true ∧ lettB ⟨#[109, 97, 105, 110]⟩ = true := by decide +kernel
theorem name_eq (hT : OkT T) : ∃ (x : Str) (b' : Bag), F (n + 4) .f__law_name [.ref 3] (b.st T) = .ok (.str x) (b'.st T) ∧ nameB (.str x) = true := by
  obtain ⟨c, b1, e1, hc⟩ := draw_eq (n := n + 1) (b := b) hT (k := 7) (by decide) (by decide)
  obtain ⟨i, b2, e2, hi⟩ := draw_eq (n := n + 1) (b := b1) hT (k := 36) (by decide) (by decide)
  obtain ⟨j, b3, e3, hj⟩ := draw_eq (n := n + 1) (b := b2) hT (k := 8) (by decide) (by decide)
  obtain ⟨m, b4, e4, hm⟩ := letters_eq (n := n) (b := b3) hT (k := 1 + j) (by omega) (by omega)
  have w1 := law_words_eq (n := n + 2) (clo_st (b := b1) hT)
  have w4 := law_words_eq (n := n + 2) (clo_st (b := b4) hT)
  have hwl : wordsL.length = 36 := by decide +kernel
  obtain ⟨w, hw⟩ : ∃ w, wordsL[i]? = some w := ⟨_, List.getElem?_eq_getElem (by rw [hwl]; exact hi)⟩
  have hwm := List.mem_of_getElem? hw
  obtain ⟨⟨f1, f2, f3⟩, f4, f5, f6⟩ := words_fact w hwm
  obtain ⟨k1, k2, k3, k4⟩ := consts_lett
  have hm2 := hm
  simp only [lettB, Bool.and_eq_true, decide_eq_true_eq] at hm2
  have hc1 := cut1_len (x := m) hm2.1.1
  have l0 : lettB (w ++ cutS m none (some 1)) = true := by
    simp only [lettB, Bool.and_eq_true, decide_eq_true_eq, len_app, hc1]
    exact ⟨⟨by omega, by omega⟩, app_all f3 (cut_all hm2.2)⟩
  obtain ⟨x, hx, hxl⟩ : ∃ x : Str, [w ++ cutS m none (some 1), cutS w none (some (-1)), m, ⟨#[120]⟩, ⟨#[121]⟩, ⟨#[110]⟩, ⟨#[109, 97, 105, 110]⟩][c]? = some x ∧ lettB x = true := by
    have hcs : c = 0 ∨ c = 1 ∨ c = 2 ∨ c = 3 ∨ c = 4 ∨ c = 5 ∨ c = 6 := by omega
    rcases hcs with rfl | rfl | rfl | rfl | rfl | rfl | rfl
    · exact ⟨_, rfl, l0⟩
    · exact ⟨_, rfl, f4⟩
    · exact ⟨_, rfl, hm⟩
    · exact ⟨_, rfl, k1⟩
    · exact ⟨_, rfl, k2⟩
    · exact ⟨_, rfl, k3⟩
    · exact ⟨_, rfl, k4⟩
  have hx2 : ([W.str (w ++ cutS m none (some 1)), .str (cutS w none (some (-1))), .str m, .str ⟨#[120]⟩, .str ⟨#[121]⟩, .str ⟨#[110]⟩, .str ⟨#[109, 97, 105, 110]⟩] : List W)[c]? = some (.str x) := by
    have : ([W.str (w ++ cutS m none (some 1)), .str (cutS w none (some (-1))), .str m, .str ⟨#[120]⟩, .str ⟨#[121]⟩, .str ⟨#[110]⟩, .str ⟨#[109, 97, 105, 110]⟩] : List W) = [w ++ cutS m none (some 1), cutS w none (some (-1)), m, ⟨#[120]⟩, ⟨#[121]⟩, ⟨#[110]⟩, ⟨#[109, 97, 105, 110]⟩].map W.str := rfl
    rw [this, List.getElem?_map, hx]; rfl
  have hxl2 := hxl
  simp only [lettB, Bool.and_eq_true, decide_eq_true_eq] at hxl2
  have hin : inW gdT (.str x) (.lst (wordsL.map W.str)) (b4.st T) = some (.bl (decide (x ∈ wordsL)), b4.st T) := in_strsL
  have e1 : F (n + 3) .f__law_draw [.ref 3, .int 7] (b.st T) = .ok (.int c) (b1.st T) := e1
  have e2' : F (n + 3) .f__law_draw [.ref 3, .int 36] (b1.st T) = .ok (.int i) (b2.st T) := e2
  have e3 : F (n + 3) .f__law_draw [.ref 3, .int 8] (b2.st T) = .ok (.int j) (b3.st T) := e3
  have e4 : F (n + 3) .f__law_letters [.ref 3, .int (1 + (j : Int))] (b3.st T) = .ok (.str m) (b4.st T) := by
    have := e4
    push_cast at this
    exact this
  have w1 : F (n + 3) .f__law_words [] (b1.st T) = .ok (.lst (wordsL.map W.str)) (b1.st T) := w1
  have w4 : F (n + 3) .f__law_words [] (b4.st T) = .ok (.lst (wordsL.map W.str)) (b4.st T) := w4
  have hw2 : (wordsL.map W.str)[i]? = some (.str w) := by rw [List.getElem?_map, hw]; rfl
  have hw16 : w.length ≤ 16777216 := by omega
  have hm16 : m.length ≤ 16777216 := by omega
  have hx16 : x.length ≤ 16777216 := by omega
  have hs16 : w.length + (cutS m none (some 1)).length ≤ 16777216 := by omega
  rw [F__law_name]
  by_cases hxw : x ∈ wordsL
  · obtain ⟨_, _, q5, _⟩ := words_fact x hxw
    have ql := nameB_len q5
    rw [len_app] at ql
    have ql2 : (⟨#[122]⟩ : Str).length + (cutS x (some 1) none).length ≤ 16777216 := by omega
    refine ⟨_, b4, ?_, q5⟩
    have hc : cutR (b.st T) (.str ((⟨#[122]⟩ : Str) ++ cutS x (some 1) none)) (b4.st T) = .ok (.str ((⟨#[122]⟩ : Str) ++ cutS x (some 1) none)) (b4.st T) := cut_st0 hT rfl
    simp [b__law_name, e1, e2', w1, hw2, e3, e4, w4, hw16, hm16, hx16, f1, hs16, hx2, hin, hxw]
    have hz1 : (⟨#[122]⟩ : Str).length = 1 := rfl
    rw [if_pos (by omega)]
    exact hc
  · refine ⟨x, b4, ?_, nameB_lett hxl hxw⟩
    have hc : cutR (b.st T) (.str x) (b4.st T) = .ok (.str x) (b4.st T) := cut_st0 hT rfl
    simp [b__law_name, e1, e2', w1, hw2, e3, e4, w4, hw16, hm16, hx16, f1, hs16, hx2, hin, hxw]
    exact hc
end Sh

set_option Elab.async false
set_option linter.all false
set_option maxRecDepth 100000
set_option maxHeartbeats 4000000
namespace Sh
open PySem L2
variable {n : Nat} {S : Store} {b b' : Bag} {T J : Store}
@[simp] theorem atI_4 {α : Type} {xs : List α} : atI xs 4 = xs[4]? := atI_nn (i := 4)
@[simp] theorem atI_5 {α : Type} {xs : List α} : atI xs 5 = xs[5]? := atI_nn (i := 5)
@[simp] theorem atI_6 {α : Type} {xs : List α} : atI xs 6 = xs[6]? := atI_nn (i := 6)
/-! ### rooms -/
def rm (T : Store) (a : Nat) (r : Int) : Store := T.set a (.lst [.int r])
@[simp] theorem rm_len {a : Nat} {r : Int} : (rm T a r).length = T.length := by simp [rm]
theorem rm_app {a : Nat} {r : Int} (h : a < T.length) : rm T a r ++ J = rm (T ++ J) a r := by
  unfold rm
  rw [List.set_append_left _ _ h]
theorem rm_rm {a : Nat} {r r' : Int} : rm (rm T a r) a r' = rm T a r' := by simp [rm]
theorem rm_get {a : Nat} {r : Int} (h : a < T.length) : (rm T a r)[a]? = some (.lst [.int r]) := by
  unfold rm
  rw [List.getElem?_set_self h]
theorem okT_rm {a : Nat} {r : Int} (hT : OkT T) : OkT (rm T a r) := by
  intro o ho
  rw [rm_len]
  unfold rm at ho
  rcases List.mem_or_eq_of_mem_set ho with ho | rfl
  · exact hT o ho
  · rfl
theorem get_room {a : Nat} {r : Int} (h : a < T.length) : getW gdT (.ref (a + 4)) (.int 0) (b.st (rm T a r)) = some (.int r, b.st (rm T a r)) := by
  simp [getW, lsW, rm_get h]
theorem set_room {a : Nat} {r r' : Int} (h : a < T.length) : setW (.ref (a + 4)) (.int 0) (.int r') (b.st (rm T a r)) = some (b.st (rm T a r')) := by
  simp only [setW, st_T, rm_get h]
  rw [show ixN [W.int r].length 0 = some 0 from rfl]
  simp only [Option.map_some, st_set, List.set_cons_zero]
  unfold rm
  rw [List.set_set]
def kI (k : Bool) : Int := if k then 1 else 0
theorem wri_dt {x : Str} (h : writtenB (.str x) = true) : dtW (.str x) = true := by
  have := wri_len h
  simp [dtW]; omega
theorem nam_dt {x : Str} (h : nameB (.str x) = true) : dtW (.str x) = true := by
  have := name_len h
  simp [dtW]; omega
theorem isW_dt {r : Nat} {kept : Bool} {w : W} (h : isW r kept w = true) : dtW w = true := (isV_ok r w (isW_isV h)).dt
theorem isW_low {r m : Nat} {kept : Bool} {w : W} (h : isW r kept w = true) : lowW m w = true := dt_low (isW_dt h)
/-! ### leaves -/
theorem leafs_ok : isW 1 true (.tup [.str "nothing"]) = true ∧ isW 1 false (.tup [.str "nothing"]) = true ∧ isW 1 true (.tup [.str "list", .lst []]) = true ∧ isW 1 false (.tup [.str "list", .lst []]) = true ∧ isW 1 false (.tup [.str "fall"]) = true ∧ isW 1 true (.lst [.str "here"]) = true ∧ isW 1 false (.lst [.str "here"]) = true := by decide +kernel
theorem shape_num : shapeOf "number" = some "n" ∧ shapeOf "name" = some "x" ∧ shapeOf "text" = some "t" := by decide +kernel
theorem leav_num : ("number" : Str) ∉ leavingL ∧ ("name" : Str) ∉ leavingL ∧ ("text" : Str) ∉ leavingL := by decide +kernel
theorem good_num {i : Int} (h : -999 ≤ i ∧ i ≤ 999) (kept : Bool) : isW 1 kept (.tup [.str "number", .int i]) = true := by
  simp only [isW, row_tup, shape_num.1, leav_num.1]
  simp [itemB, plainB, intB, h]
theorem good_name {x : Str} (h : nameB (.str x) = true) (kept : Bool) : isW 1 kept (.tup [.str "name", .str x]) = true := by
  simp only [isW, row_tup, shape_num.2.1, leav_num.2.1]
  simp [itemB, plainB, h]
theorem good_text {x : Str} (h : writtenB (.str x) = true) (kept : Bool) : isW 1 kept (.tup [.str "text", .str x]) = true := by
  simp only [isW, row_tup, shape_num.2.2, leav_num.2.2]
  simp [itemB, plainB, h]
theorem leaf_eq (hT : OkT T) (kept : Bool) : ∃ (w : W) (b' : Bag), F (n + 6) .f__law_leaf [.ref 3, .int (kI kept)] (b.st T) = .ok w (b'.st T) ∧ isW 1 kept w = true := by
  obtain ⟨g1, g2, g3, g4, g5, g6, g7⟩ := leafs_ok
  obtain ⟨c, b1, e1, hc⟩ := draw_eq (n := n + 3) (b := b) hT (k := 7) (by decide) (by decide)
  obtain ⟨i, b2, e2, hi⟩ := draw_eq (n := n + 3) (b := b1) hT (k := 1999) (by decide) (by decide)
  obtain ⟨x, b3, e3, hx⟩ := name_eq (n := n + 1) (b := b1) hT
  obtain ⟨z, b4, e4, hz⟩ := written_law_eq (n := n + 2) (b := b1) hT
  have e1 : F (n + 5) .f__law_draw [.ref 3, .int 7] (b.st T) = .ok (.int c) (b1.st T) := e1
  have e2 : F (n + 5) .f__law_draw [.ref 3, .int 1999] (b1.st T) = .ok (.int i) (b2.st T) := e2
  have e3 : F (n + 5) .f__law_name [.ref 3] (b1.st T) = .ok (.str x) (b3.st T) := e3
  have e4 : F (n + 5) .f__law_written [.ref 3] (b1.st T) = .ok (.str z) (b4.st T) := e4
  have hcut : ∀ {w : W} {b' : Bag}, isW 1 kept w = true → cutR (b.st T) w (b'.st T) = .ok w (b'.st T) := fun h => cut_st0 hT (isW_low h)
  have G1 : isW 1 kept (.tup [.str "nothing"]) = true := by cases kept; exact g2; exact g1
  have G3 : isW 1 kept (.tup [.str "list", .lst []]) = true := by cases kept; exact g4; exact g3
  have G5 : isW 1 kept (.lst [.str "here"]) = true := by cases kept; exact g7; exact g6
  have GN := good_num (i := (i : Int) - 999) (by omega) kept
  have GX := good_name hx kept
  have GT := good_text hz kept
  have C1 := fun b' => hcut (b' := b') G1
  have C3 := fun b' => hcut (b' := b') G3
  have C5 := fun b' => hcut (b' := b') G5
  have CN := fun b' => hcut (b' := b') GN
  have CX := fun b' => hcut (b' := b') GX
  have CT := fun b' => hcut (b' := b') GT
  simp at C1 C3 C5 CN CX CT
  rw [F__law_leaf]
  have hcs : c = 0 ∨ c = 1 ∨ c = 2 ∨ c = 3 ∨ c = 4 ∨ c = 5 ∨ c = 6 := by omega
  rcases hcs with rfl | rfl | rfl | rfl | rfl | rfl | rfl
  · refine ⟨_, b1, ?_, G1⟩
    simp [b__law_leaf, e1, C1]
  · refine ⟨_, b2, ?_, GN⟩
    simp [b__law_leaf, e1, e2, CN]
  · refine ⟨_, b4, ?_, GT⟩
    simp [b__law_leaf, e1, e4, CT]
  · refine ⟨_, b1, ?_, G3⟩
    simp [b__law_leaf, e1, C3]
  · cases kept with
    | true =>
      refine ⟨_, b1, ?_, G1⟩
      simp [b__law_leaf, e1, C1, kI]
    | false =>
      refine ⟨_, b1, ?_, g5⟩
      have C5 := fun b' => hcut (b' := b') (w := .tup [.str "fall"]) g5
      simp at C5
      simp [b__law_leaf, e1, C5, kI]
  · refine ⟨_, b1, ?_, G5⟩
    simp [b__law_leaf, e1, C5]
  · refine ⟨_, b3, ?_, GX⟩
    simp [b__law_leaf, e1, e3, CX]
/-! ### what is used of the room -/
def dwR (x y : Int) : Int := 6 * (max x 1 - max y 1)
/-- an expression of up to r levels, made from the room x, of which y is left -/
structure Gd (r : Nat) (kept : Bool) (w : W) (x y : Int) : Prop where
  v : isW r kept w = true
  le : y ≤ x
  sz : (szW r w : Int) ≤ 1 + dwR x y
theorem sz1 {w : W} (h : isV 1 w = true) : szW 1 w = 1 := by
  have hp := parts_isV h
  simp only [szW]
  cases e : partsW w with
  | nil => rfl
  | cons p ps => exact absurd (hp p (by rw [e]; simp)) (by simp [isV])
theorem gd_leaf {kept : Bool} {w : W} (h : isW 1 kept w = true) {x y : Int} (hy : y ≤ x) : Gd 1 kept w x y := ⟨h, hy, by rw [sz1 (isW_isV h)]; unfold dwR; omega⟩
theorem Gd.mono {r : Nat} {kept : Bool} {w : W} {x y : Int} (h : Gd r kept w x y) : Gd (r + 1) kept w x y := ⟨isW_step h.v, h.le, by rw [(isV_mono r w (isW_isV h.v)).2]; exact h.sz⟩
theorem Gd.mono1 {r : Nat} {kept : Bool} {w : W} {x y : Int} (h : Gd 1 kept w x y) : Gd (r + 1) kept w x y := by
  induction r with
  | zero => exact h
  | succ r ih => exact ih.mono
/-- the same for an item -/
structure Gi (r : Nat) (kept : Bool) (c : Nat) (w : W) (x y : Int) : Prop where
  v : itemB (isW r kept) c w = true
  le : y ≤ x
  sz : (((partL c w).map (szW r)).sum : Int) ≤ cntC c + dwR x y
theorem item_ok {r c : Nat} {w : W} (h : itemB (isV r) c w = true) : OkW w := by
  unfold itemB at h
  split at h
  · exact isV_ok r _ h
  · split at h
    · obtain ⟨ps, h1, h2, _, h3⟩ := rowB_inv h
      exact rowOk h1 ⟨by omega, fun q hq => isV_ok r q (h3 q hq)⟩
    · exact (plain_pl h).ok
theorem Gi.dt {r c : Nat} {kept : Bool} {w : W} {x y : Int} (h : Gi r kept c w x y) : dtW w = true := (item_ok (itemB_mono (fun w hw => isW_isV hw) h.v)).dt
theorem gi_plain {r c : Nat} {kept : Bool} {w : W} {x y : Int} (h : itemB (isW r kept) c w = true) (hc : ¬ c = 101) (hc2 : ¬ (c = 108 ∨ c = 100 ∨ c = 97)) (hy : y ≤ x) : Gi r kept c w x y := by
  refine ⟨h, hy, ?_⟩
  unfold partL
  rw [if_neg hc, if_neg hc2]
  simp only [List.map_nil, List.sum_nil]
  unfold dwR
  omega
theorem gi_e {r : Nat} {kept : Bool} {w : W} {x y : Int} (h : Gd r kept w x y) : Gi r kept 101 w x y := by
  refine ⟨by simp only [itemB, if_true, h.v], h.le, ?_⟩
  have := h.sz
  simp [partL, cntC]
  omega
end Sh

set_option Elab.async false
set_option linter.all false
set_option maxRecDepth 100000
set_option maxHeartbeats 4000000
namespace Sh
open PySem L2
variable {n : Nat} {S : Store} {b b' : Bag} {T J : Store}
theorem cut_gen {T' : Store} {w : W} (hl : T'.length = T.length) (h : OkT T') (hw : lowW (T.length + 4) w = true) : cutR (b.st T) w (b'.st (T' ++ J)) = .ok w (b'.st T') := by
  unfold cutR
  have e : (b'.st T').length = (b.st T).length := by simp [hl]
  rw [fzD_low (by rw [st_len]; exact hw)]
  have h1 : okS (b.st T).length (b'.st (T' ++ J)) = true := by
    rw [← e, ← st_app, okS_app]; exact clo_st h
  simp only [h1, if_true]
  rw [← e, ← st_app, List.take_left]
theorem cut_gen_lst {T' : Store} {ws : List W} (hl : T'.length = T.length) (h : OkT T') (hw : lowWs (T.length + 4) ws = true) : cutR (b.st T) (.ref (T.length + 4)) (b'.st (T' ++ .lst ws :: J)) = .ok (.lst ws) (b'.st T') := by
  unfold cutR
  have e : (b'.st T').length = (b.st T).length := by simp [hl]
  have hx : (b'.st (T' ++ .lst ws :: J))[T.length + 4]? = some (.lst ws) := by rw [st_T, ← hl]; exact top_get
  rw [st_len, fzD_ref (ws := ws) (Nat.lt_irrefl _) hx hw]
  have e2 : T.length + 4 = (b'.st T').length := by simp [hl]
  have h1 : okS (T.length + 4) (b'.st (T' ++ .lst ws :: J)) = true := by
    rw [e2, ← st_app, okS_app]; exact clo_st h
  simp only [h1, if_true]
  rw [e2, ← st_app, List.take_left]
/-- the state of a room within the store -/
abbrev rst (T : Store) (a : Nat) (s : Bag × Int) : Store := s.1.st (rm T a s.2)
/-- the state of a room within the store -/
theorem cut_rst {a : Nat} {w : W} (hT : OkT T) (s s' : Bag × Int) (h : dtW w = true) : cutR (rst T a s) w (rst T a s') = .ok w (rst T a s') := by
  have := cut_gen (b := s.1) (b' := s'.1) (T := rm T a s.2) (T' := rm T a s'.2) (J := []) (w := w) (by simp) (okT_rm hT) (dt_low h)
  rw [List.append_nil] at this
  exact this
def opL : List Str := [⟨#[43]⟩, ⟨#[45]⟩, ⟨#[42]⟩, ⟨#[47]⟩, ⟨#[109, 111, 100]⟩, ⟨#[46]⟩, ⟨#[60]⟩, ⟨#[60, 61]⟩, ⟨#[61]⟩, ⟨#[60, 62]⟩, ⟨#[105, 115]⟩, ⟨#[105, 115, 110, 116]⟩]
theorem opL_ok : ∀ i < 12, (match opL[i]? with | some x => (if i < 6 then decide (x ∈ opsL) else decide (x ∈ testsL)) && decide (x.length ≤ 1000) | none => false) = true := by decide +kernel
theorem op_at {i : Nat} (h : i < 12) : ∃ x, ([.str ⟨#[43]⟩, .str ⟨#[45]⟩, .str ⟨#[42]⟩, .str ⟨#[47]⟩, .str ⟨#[109, 111, 100]⟩, .str ⟨#[46]⟩, .str ⟨#[60]⟩, .str ⟨#[60, 61]⟩, .str ⟨#[61]⟩, .str ⟨#[60, 62]⟩, .str ⟨#[105, 115]⟩, .str ⟨#[105, 115, 110, 116]⟩] : List W)[i]? = some (.str x) ∧ (i < 6 → x ∈ opsL) ∧ (¬ i < 6 → x ∈ testsL) ∧ dtW (.str x) = true := by
  have h1 := opL_ok i h
  split at h1
  · rename_i x hx
    simp only [Bool.and_eq_true, decide_eq_true_eq] at h1
    refine ⟨x, ?_, fun h6 => ?_, fun h6 => ?_, by simp only [dtW, decide_eq_true_eq]; exact h1.2⟩
    · have : ([.str ⟨#[43]⟩, .str ⟨#[45]⟩, .str ⟨#[42]⟩, .str ⟨#[47]⟩, .str ⟨#[109, 111, 100]⟩, .str ⟨#[46]⟩, .str ⟨#[60]⟩, .str ⟨#[60, 61]⟩, .str ⟨#[61]⟩, .str ⟨#[60, 62]⟩, .str ⟨#[105, 115]⟩, .str ⟨#[105, 115, 110, 116]⟩] : List W) = opL.map W.str := rfl
      rw [this, List.getElem?_map, hx]; rfl
    · rw [if_pos h6] at h1; exact of_decide_eq_true h1.1
    · rw [if_neg h6] at h1; exact of_decide_eq_true h1.1
  · cases h1
/-- a comprehension with a bound on what was made -/
theorem lc_famI {σ : Type} (st : σ → Store) {m : Bool} {it : IM} {own : List Nat} {v : Nat} {a : EM} {e : En} (I : List W → σ → Prop) (N : Nat) (hN : N ≤ 16777216) (s0 : σ) (hi : it e (st s0) = .ok (itR 0 N) (st s0)) (h0 : I [] s0)
    (step : ∀ acc s, acc.length < N → I acc s → ∃ w s', a ((wipeE e own).set v (some (.int (acc.length : Nat)))) (st s) = .ok w (st s') ∧ I (acc ++ [w]) s') :
    ∃ ws s', eLc m it own (gVar v) tYesM a e (st s0) = .ok (mkL m ws (st s')).1 (mkL m ws (st s')).2 ∧ ws.length = N ∧ I ws s' := by
  obtain ⟨ws, S', h1, s', rfl, h2, h3, h4⟩ := lc_inv (m := m) (it := it) (own := own) (g := gVar v) (t := tYesM) (a := a) (e := e) (S := st s0)
    (fun i acc S => ∃ s, S = st s ∧ acc.length = i ∧ i ≤ N ∧ I acc s) N (by have := fuel_ge; omega) hi ⟨s0, rfl, rfl, Nat.zero_le _, h0⟩ (fun i acc S h => by obtain ⟨_, _, _, h, _⟩ := h; exact h) (by
    rintro i acc S ⟨s, rfl, rfl, hle, hP⟩
    by_cases hlt : acc.length < N
    · obtain ⟨w, s', hw, hp⟩ := step acc s hlt hP
      exact .inr ⟨.int (acc.length : Nat), _, _, true, _, by rw [itR_lt hlt]; simp, rfl, rfl, .inr ⟨rfl, w, _, hw, by simp; omega, s', rfl, by simp, hlt, hp⟩⟩
    · exact .inl ⟨itR_ge hlt, by omega⟩)
  exact ⟨ws, s', h1, h2, h4⟩
/-- parts that were made one after the other -/
structure Gs (r : Nat) (kept : Bool) (ws : List W) (x y : Int) : Prop where
  v : ∀ w ∈ ws, isW r kept w = true
  le : y ≤ x
  sz : ((ws.map (szW r)).sum : Int) ≤ ws.length + dwR x y
theorem gs_nil {r : Nat} {kept : Bool} {x : Int} : Gs r kept [] x x := ⟨by simp, Int.le_refl _, by simp [dwR]⟩
theorem Gs.push {r : Nat} {kept : Bool} {ws : List W} {w : W} {x y z : Int} (h : Gs r kept ws x y) (hw : Gd r kept w y z) : Gs r kept (ws ++ [w]) x z := by
  refine ⟨fun q hq => ?_, by have := h.le; have := hw.le; omega, ?_⟩
  · rcases List.mem_append.mp hq with hq | hq
    · exact h.v q hq
    · rw [List.mem_singleton.mp hq]; exact hw.v
  · have h1 := h.sz
    have h2 := hw.sz
    have h3 := h.le
    have h4 := hw.le
    simp only [List.map_append, List.sum_append, List.map_cons, List.map_nil, List.sum_cons, List.sum_nil, List.length_append, List.length_cons, List.length_nil]
    unfold dwR at *
    omega
theorem gi_row {r c : Nat} {kept : Bool} {x : W} {ws : List W} {p q : Int} (hx : rowW x = some ws) (h : Gs r kept ws p q) (hc : c = 108 ∨ c = 100 ∨ c = 97) (h1 : (if c = 100 then 1 else 0) ≤ ws.length) (h2 : ws.length ≤ if c = 100 then 6 else if c = 97 then 3 else 4) : Gi r kept c x p q := by
  have hc1 : ¬ c = 101 := by omega
  refine ⟨?_, h.le, ?_⟩
  · unfold itemB
    rw [if_neg hc1, if_pos hc]
    unfold rowB
    rw [hx]
    simp only [Bool.and_eq_true, decide_eq_true_eq, List.all_eq_true]
    exact ⟨⟨h1, h2⟩, h.v⟩
  · unfold partL
    rw [if_neg hc1, if_pos hc, hx]
    have h3 := h.sz
    simp only [Option.getD_some]
    rcases hc with rfl | rfl | rfl
    · simp only [cntC]; simp at h2; simp; omega
    · simp only [cntC]; simp at h2; simp; omega
    · simp only [cntC]; simp at h2; simp; omega
theorem item_eq (hT : OkT T) {a : Nat} (ha : a < T.length) {d r : Nat} {kept : Bool}
    (hE : ∀ s, ∃ w s', F (n + 6) .f__law_expression [.ref 3, .ref (a + 4), .int d, .int (kI kept)] (rst T a s) = .ok w (rst T a s') ∧ Gd r kept w s.2 s'.2)
    {c : Nat} (hc : c ∈ [101, 110, 116, 120, 111, 99, 109, 108, 100, 97]) (s : Bag × Int) :
    ∃ w s', F (n + 7) .f__law_item [.ref 3, chrW c, .ref (a + 4), .int d, .int (kI kept)] (rst T a s) = .ok w (rst T a s') ∧ Gi r kept c w s.2 s'.2 := by
  have hTr : ∀ r, OkT (rm T a r) := fun r => okT_rm hT
  have hdr : ∀ (s : Bag × Int) (k : Nat), 0 < k → k < 1000000 → ∃ (q : Nat) (s' : Bag × Int), F (n + 6) .f__law_draw [.ref 3, .int k] (rst T a s) = .ok (.int q) (rst T a s') ∧ q < k ∧ s'.2 = s.2 := fun s k h1 h2 => by
    obtain ⟨q, b', e, h⟩ := draw_eq (n := n + 4) (b := s.1) (hTr s.2) h1 h2
    exact ⟨q, (b', s.2), e, h, rfl⟩
  have hcut : ∀ {w : W} (s s' : Bag × Int), dtW w = true → cutR (rst T a s) w (rst T a s') = .ok w (rst T a s') := fun s s' h => cut_rst hT s s' h
  have rowlc : ∀ (s : Bag × Int) (c N : Nat) (X : Int) (t : W), X = N → N ≤ 6 → ∃ ws s', eLc false (iRange1 (eVar 6)) [8] (gVar 8) tYesM (eCall (F (n + 6) .f__law_expression) [(eVar 0), (eVar 2), (eVar 3), (eVar 4)])
      [some (.ref 3), some (chrW c), some (.ref (a + 4)), some (.int d), some (.int (kI kept)), none, some (.int X), some t, none] (rst T a s) = .ok (.lst ws) (rst T a s') ∧ ws.length = N ∧ Gs r kept ws s.2 s'.2 := fun s c N X t hX hN => by
    subst hX
    obtain ⟨ws, s', h1, h2, h3⟩ := lc_famI (rst T a) (m := false) (own := [8]) (v := 8) (it := iRange1 (eVar 6)) (a := eCall (F (n + 6) .f__law_expression) [(eVar 0), (eVar 2), (eVar 3), (eVar 4)]) (e := [some (.ref 3), some (chrW c), some (.ref (a + 4)), some (.int d), some (.int (kI kept)), none, some (.int N), some t, none]) (fun ws s' => Gs r kept ws s.2 s'.2) N (by omega) s (iRange1_ok (n := N) rfl (by omega)) gs_nil (fun acc s1 hi hI => by
      obtain ⟨w, s', h1, h2⟩ := hE s1
      refine ⟨w, s', ?_, hI.push h2⟩
      simp only [eCall_ap, evs_cons, evs_nil, eVar_ap, wipeE, R.bind_ok, List.set_cons_zero, List.set_cons_succ, List.getElem?_cons_zero, List.getElem?_cons_succ, h1])
    exact ⟨ws, s', h1, h2, h3⟩
  have rowret : ∀ (ws : List W) (t : Nat), t < 2 → ∃ x, ([W.lst ws, .tup ws] : List W)[t]? = some x ∧ rowW x = some ws ∧ dtW x = dtW (.lst ws) := fun ws t ht => by
    have : t = 0 ∨ t = 1 := by omega
    rcases this with rfl | rfl
    · exact ⟨_, rfl, rfl, rfl⟩
    · exact ⟨_, rfl, rfl, rfl⟩
  rw [F__law_item]
  simp only [List.mem_cons, List.not_mem_nil, or_false] at hc
  rcases hc with rfl | rfl | rfl | rfl | rfl | rfl | rfl | rfl | rfl | rfl
  · obtain ⟨w, s', h1, h2⟩ := hE s
    have hg := gi_e h2
    refine ⟨w, s', ?_, hg⟩
    simp [b__law_item, h1, hcut s s' hg.dt]
  · obtain ⟨q, s', h1, h2, h2s⟩ := hdr s 1999 (by decide) (by decide)
    have h1 : F (n + 6) .f__law_draw [.ref 3, .int 1999] (rst T a s) = .ok (.int q) (rst T a s') := h1
    have hd : dtW (.int ((q : Int) - 999)) = true := by simp [dtW]; omega
    refine ⟨.int ((q : Int) - 999), s', ?_, gi_plain ?_ (by decide) (by decide) (by omega)⟩
    · simp [b__law_item, h1, hcut s s' hd]
    · simp [itemB, plainB, intB]; omega
  · obtain ⟨z, b', h1, h2⟩ := written_law_eq (n := n + 3) (b := s.1) (hTr s.2)
    have h1 : F (n + 6) .f__law_written [.ref 3] (rst T a s) = .ok (.str z) (rst T a (b', s.2)) := h1
    refine ⟨.str z, (b', s.2), ?_, gi_plain ?_ (by decide) (by decide) (Int.le_refl _)⟩
    · simp [b__law_item, h1, hcut s (b', s.2) (wri_dt h2)]
    · simp [itemB, plainB, h2]
  · obtain ⟨z, b', h1, h2⟩ := name_eq (n := n + 2) (b := s.1) (hTr s.2)
    have h1 : F (n + 6) .f__law_name [.ref 3] (rst T a s) = .ok (.str z) (rst T a (b', s.2)) := h1
    refine ⟨.str z, (b', s.2), ?_, gi_plain ?_ (by decide) (by decide) (Int.le_refl _)⟩
    · simp [b__law_item, h1, hcut s (b', s.2) (nam_dt h2)]
    · simp [itemB, plainB, h2]
  · obtain ⟨q, s', h1, h2, h2s⟩ := hdr s 6 (by decide) (by decide)
    have h1 : F (n + 6) .f__law_draw [.ref 3, .int 6] (rst T a s) = .ok (.int q) (rst T a s') := h1
    obtain ⟨x, x1, x2, x3, x4⟩ := op_at (i := q) (by omega)
    refine ⟨.str x, s', ?_, gi_plain ?_ (by decide) (by decide) (by omega)⟩
    · simp [b__law_item, h1, x1, hcut s s' x4]
    · simp [itemB, plainB, wordB, x2 h2]
  · obtain ⟨q, s', h1, h2, h2s⟩ := hdr s 6 (by decide) (by decide)
    have h1 : F (n + 6) .f__law_draw [.ref 3, .int 6] (rst T a s) = .ok (.int q) (rst T a s') := h1
    obtain ⟨x, x1, x2, x3, x4⟩ := op_at (i := q + 6) (by omega)
    have hat : ∀ (xs : List W), atI xs ((q : Int) + 6) = xs[q + 6]? := fun xs => atI_nn (i := q + 6)
    refine ⟨.str x, s', ?_, gi_plain ?_ (by decide) (by decide) (by omega)⟩
    · simp [b__law_item, h1, hat, x1, hcut s s' x4]
    · simp [itemB, plainB, wordB, x3 (by omega)]
  · obtain ⟨q, s', h1, h2, h2s⟩ := hdr s 21 (by decide) (by decide)
    have h1 : F (n + 6) .f__law_draw [.ref 3, .int 21] (rst T a s) = .ok (.int q) (rst T a s') := h1
    have hd : dtW (.int (q : Int)) = true := by simp [dtW]; omega
    refine ⟨.int (q : Int), s', ?_, gi_plain ?_ (by decide) (by decide) (by omega)⟩
    · simp [b__law_item, h1, hcut s s' hd]
    · simp [itemB, plainB, intB]; omega
  · obtain ⟨q, s1, h1, h2, h2s⟩ := hdr s 5 (by decide) (by decide)
    have h1 : F (n + 6) .f__law_draw [.ref 3, .int 5] (rst T a s) = .ok (.int q) (rst T a s1) := h1
    obtain ⟨t, s2, g1, g2, g2s⟩ := hdr s1 2 (by decide) (by decide)
    have g1 : F (n + 6) .f__law_draw [.ref 3, .int 2] (rst T a s1) = .ok (.int t) (rst T a s2) := g1
    obtain ⟨ws, s3, e1, e2, e3⟩ := rowlc s2 108 q q (.int t) rfl (by omega)
    obtain ⟨x, x1, x2, x3⟩ := rowret ws t g2
    have hi := gi_row (c := 108) x2 (p := s.2) (by rw [← h2s, ← g2s]; exact e3) (by omega) (by simp) (by simp; omega)
    refine ⟨x, s3, ?_, hi⟩
    simp [b__law_item, h1, g1, dicN3, get_dic3c, e1, x1, hcut s s3 hi.dt]
  · obtain ⟨q, s1, h1, h2, h2s⟩ := hdr s 6 (by decide) (by decide)
    have h1 : F (n + 6) .f__law_draw [.ref 3, .int 6] (rst T a s) = .ok (.int q) (rst T a s1) := h1
    obtain ⟨t, s2, g1, g2, g2s⟩ := hdr s1 2 (by decide) (by decide)
    have g1 : F (n + 6) .f__law_draw [.ref 3, .int 2] (rst T a s1) = .ok (.int t) (rst T a s2) := g1
    obtain ⟨ws, s3, e1, e2, e3⟩ := rowlc s2 100 (q + 1) ((q : Int) + 1) (.int t) (by omega) (by omega)
    obtain ⟨x, x1, x2, x3⟩ := rowret ws t g2
    have hi := gi_row (c := 100) x2 (p := s.2) (by rw [← h2s, ← g2s]; exact e3) (by omega) (by simp; omega) (by simp; omega)
    refine ⟨x, s3, ?_, hi⟩
    simp [b__law_item, h1, g1, dicN3, get_dic3c, e1, x1, hcut s s3 hi.dt]
  · obtain ⟨q, s1, h1, h2, h2s⟩ := hdr s 4 (by decide) (by decide)
    have h1 : F (n + 6) .f__law_draw [.ref 3, .int 4] (rst T a s) = .ok (.int q) (rst T a s1) := h1
    obtain ⟨t, s2, g1, g2, g2s⟩ := hdr s1 2 (by decide) (by decide)
    have g1 : F (n + 6) .f__law_draw [.ref 3, .int 2] (rst T a s1) = .ok (.int t) (rst T a s2) := g1
    obtain ⟨ws, s3, e1, e2, e3⟩ := rowlc s2 97 q q (.int t) rfl (by omega)
    obtain ⟨x, x1, x2, x3⟩ := rowret ws t g2
    have hi := gi_row (c := 97) x2 (p := s.2) (by rw [← h2s, ← g2s]; exact e3) (by omega) (by simp) (by simp; omega)
    refine ⟨x, s3, ?_, hi⟩
    simp [b__law_item, h1, g1, dicN3, get_dic3c, e1, x1, hcut s s3 hi.dt]
end Sh

set_option Elab.async false
set_option linter.all false
set_option maxRecDepth 100000
set_option maxHeartbeats 4000000
namespace Sh
open PySem L2
variable {n : Nat} {S : Store} {b b' : Bag} {T J : Store}
/-- a list that is being made, behind a part U of the store -/
theorem top_ty {U : Store} {L : Nat} {acc : List W} (h : U.length = L) : tyM "list" (.ref (L + 4)) (b.st (U ++ .lst acc :: J)) = true := by
  subst h
  simp only [tyM, st_T, top_get]
  decide
theorem top_app {U : Store} {L : Nat} {acc : List W} {x : W} (h : U.length = L) (ha : acc.length ≤ 1000000) : appendM (.ref (L + 4)) [x] (b.st (U ++ .lst acc :: J)) = some (.non, b.st (U ++ .lst (acc ++ [x]) :: J)) := by
  subst h
  simp only [appendM, st_T, top_get]
  rw [if_pos (by simp only [szl]; omega), st_set, top_set]
theorem top_tuple {U : Store} {L : Nat} {acc : List W} (h : U.length = L) : tupleN [.ref (L + 4)] (b.st (U ++ .lst acc :: J)) = some (.tup acc, b.st (U ++ .lst acc :: J)) := by
  subst h
  simp only [tupleN, lsW, st_T, top_get]
theorem shape_at {k sh : Str} (h : shapeOf k = some sh) {i c : Nat} (hc : sh.cps.toList[i]? = some c) : c ∈ [101, 110, 116, 120, 111, 99, 109, 108, 100, 97] :=
  of_decide_eq_true (List.all_eq_true.mp (shape_len h).2 c (List.mem_of_getElem? hc))
/-- items that were made one after the other -/
structure Gt (r : Nat) (kept : Bool) (cs : List Nat) (its : List W) (x y : Int) : Prop where
  v : ∀ p ∈ cs.zip its, itemB (isW r kept) p.1 p.2 = true
  le : y ≤ x
  sz : (((cs.zip its).map fun p => ((partL p.1 p.2).map (szW r)).sum).sum : Int) ≤ ((cs.take its.length).map cntC).sum + dwR x y
theorem zip_push {cs : List Nat} : ∀ {its : List W} {c : Nat} {w : W}, cs[its.length]? = some c → cs.zip (its ++ [w]) = cs.zip its ++ [(c, w)] := by
  induction cs with
  | nil => intro its c w h; simp at h
  | cons d cs ih =>
    intro its c w h
    cases its with
    | nil => simp at h; simp [h]
    | cons x its => simp only [List.cons_append, List.zip_cons_cons]; rw [ih (by simpa using h)]
theorem gt_nil {r : Nat} {kept : Bool} {cs : List Nat} {x : Int} : Gt r kept cs [] x x := ⟨by simp, Int.le_refl _, by simp [dwR]⟩
theorem Gt.push {r : Nat} {kept : Bool} {cs : List Nat} {its : List W} {c : Nat} {w : W} {x y z : Int} (h : Gt r kept cs its x y) (hc : cs[its.length]? = some c) (hw : Gi r kept c w y z) : Gt r kept cs (its ++ [w]) x z := by
  refine ⟨fun p hp => ?_, by have := h.le; have := hw.le; omega, ?_⟩
  · rw [zip_push hc] at hp
    rcases List.mem_append.mp hp with hp | hp
    · exact h.v p hp
    · rw [List.mem_singleton.mp hp]; exact hw.v
  · have h1 := h.sz
    have h2 := hw.sz
    have h3 := h.le
    have h4 := hw.le
    rw [zip_push hc, List.length_append, List.length_singleton, List.take_add_one, hc]
    simp only [List.map_append, List.sum_append, List.map_cons, List.map_nil, List.sum_cons, List.sum_nil, Option.toList_some]
    unfold dwR at *
    omega
theorem Gt.dt {r : Nat} {kept : Bool} {cs : List Nat} {its : List W} {x y : Int} (h : Gt r kept cs its x y) (hl : its.length ≤ cs.length) : ∀ w ∈ its, dtW w = true := fun w hw => by
  obtain ⟨i, hi⟩ := List.getElem?_of_mem hw
  have hil := (List.getElem?_eq_some_iff.mp hi).1
  obtain ⟨c, hc⟩ : ∃ c, cs[i]? = some c := ⟨_, List.getElem?_eq_getElem (by omega)⟩
  exact (item_ok (itemB_mono (fun w hw => isW_isV hw) (h.v (c, w) (List.mem_of_getElem? (List.getElem?_zip_eq_some.mpr ⟨hc, hi⟩))))).dt
theorem say_leav2 : (⟨#[115, 97, 121]⟩ : Str) ∉ leavingL := by decide +kernel
theorem say_shape : shapeOf "say" = some "e" := by decide +kernel
theorem gd_row {d : Nat} {kept : Bool} {w : W} {k sh : Str} {its : List W} {x y : Int} (hr : rowW w = some (.str k :: its)) (hs : shapeOf k = some sh) (hk : (kept && decide (k ∈ leavingL)) = false) (hl : its.length = sh.length) (h : Gt d (kept || decide (k = "keep")) sh.cps.toList its x y) (hx : 1 ≤ x) : Gd (d + 1) kept w (x + 1) y := by
  have h6 := (shapes_small _ (shape_mem hs)).2
  have hv : isW (d + 1) kept w = true := by
    unfold isW
    rw [hr]
    simp only [hs, hk, hl, Bool.not_false, decide_true, Bool.true_and, List.all_eq_true]
    exact fun p hp => h.v p hp
  obtain ⟨k2, sh2, its2, E, _⟩ := isW_ex hv
  have e1 := E.row
  rw [hr] at e1
  injection e1 with e1
  injection e1 with e2 e3
  injection e2 with e2
  subst e2 e3
  have e4 := E.shp
  rw [hs] at e4
  injection e4 with e4
  subst e4
  refine ⟨hv, by have := h.le; omega, ?_⟩
  rw [sz_parts E]
  have h1 := h.sz
  have h3 := h.le
  rw [List.take_of_length_le (by rw [hl]; exact Nat.le_of_eq rfl)] at h1
  simp only at h6
  unfold dwR at *
  omega
/-- the row's items -/
theorem items_loop (hT : OkT T) {a : Nat} (ha : a < T.length) {d r : Nat} {kept k2 : Bool} {k sh : Str} (hs : shapeOf k = some sh)
    (hI : ∀ acc, lowWs (T.length + 5) acc = true → ∀ c, c ∈ [101, 110, 116, 120, 111, 99, 109, 108, 100, 97] → ∀ s, ∃ w s', F (n + 7) .f__law_item [.ref 3, chrW c, .ref (a + 4), .int d, .int (kI k2)] (rst (T ++ [.lst acc]) a s) = .ok w (rst (T ++ [.lst acc]) a s') ∧ Gi r k2 c w s.2 s'.2)
    (s : Bag × Int) : ∃ (its : List W) (s' : Bag × Int) (x8 : Option W), sFor (iE (e2 (getW gdT) (eVar 4) (eVar 5))) (gVar 8) (sExpr (eMeth "list" appendM (eVar 7) [(eCall (F (n + 7) .f__law_item) [(eVar 0), (eVar 8), (eVar 1), (e2 subW (eVar 2) (eC (.int 1))), (eVar 6)])]))
      [some (.ref 3), some (.ref (a + 4)), some (.int ((d : Int) + 1)), some (.int (kI kept)), some SHD, some (.str k), some (.int (kI k2)), some (.ref (T.length + 4)), none] (s.1.st (rm T a s.2 ++ [.lst [.str k]]))
      = .nx [some (.ref 3), some (.ref (a + 4)), some (.int ((d : Int) + 1)), some (.int (kI kept)), some SHD, some (.str k), some (.int (kI k2)), some (.ref (T.length + 4)), x8] (s'.1.st (rm T a s'.2 ++ [.lst (.str k :: its)]))
      ∧ its.length = sh.length ∧ Gt r k2 sh.cps.toList its s.2 s'.2 := by
  obtain ⟨hs3, _⟩ := shape_len hs
  refine sFor_inv (it := iE (e2 (getW gdT) (eVar 4) (eVar 5))) (g := gVar 8) (J := itT (sh.cps.toList.map chrW)) (e := [some (.ref 3), some (.ref (a + 4)), some (.int ((d : Int) + 1)), some (.int (kI kept)), some SHD, some (.str k), some (.int (kI k2)), some (.ref (T.length + 4)), none]) (S := s.1.st (rm T a s.2 ++ [.lst [.str k]]))
    (I := fun i e S => i ≤ sh.length ∧ ∃ (its : List W) (s' : Bag × Int) (x8 : Option W), e = [some (.ref 3), some (.ref (a + 4)), some (.int ((d : Int) + 1)), some (.int (kI kept)), some SHD, some (.str k), some (.int (kI k2)), some (.ref (T.length + 4)), x8] ∧ S = s'.1.st (rm T a s'.2 ++ [.lst (.str k :: its)]) ∧ its.length = i ∧ Gt r k2 sh.cps.toList its s.2 s'.2)
    (P := fun q => ∃ (its : List W) (s' : Bag × Int) (x8 : Option W), q = .nx [some (.ref 3), some (.ref (a + 4)), some (.int ((d : Int) + 1)), some (.int (kI kept)), some SHD, some (.str k), some (.int (kI k2)), some (.ref (T.length + 4)), x8] (s'.1.st (rm T a s'.2 ++ [.lst (.str k :: its)])) ∧ its.length = sh.length ∧ Gt r k2 sh.cps.toList its s.2 s'.2)
    sh.length (by have := fuel_ge; omega) (iE_ok (w := .str sh) (by simp [get_SHD hs]) rfl) ⟨Nat.zero_le _, [], s, none, rfl, rfl, rfl, gt_nil⟩ (fun i e S h => h.1) ?_
  rintro i e S ⟨hi, its, s1, x8, rfl, rfl, hil, hit⟩
  by_cases hlt : i < sh.length
  · obtain ⟨c, hc⟩ : ∃ c, sh.cps.toList[i]? = some c := ⟨_, List.getElem?_eq_getElem (by rw [len_cps]; exact hlt)⟩
    have hlen2 := hil
    have hits := hit.dt (by rw [len_cps]; omega)
    have hlow : ∀ m, lowWs m (.str k :: its) = true := fun m => lowWs_all.mpr fun q hq => by
      rcases List.mem_cons.mp hq with rfl | hq
      · rfl
      · exact dt_low (hits q hq)
    obtain ⟨w, s2, h1, h2⟩ := hI (.str k :: its) (hlow _) c (shape_at hs hc) s1
    have eS : ∀ s : Bag × Int, rst (T ++ [.lst (.str k :: its)]) a s = s.1.st (rm T a s.2 ++ [.lst (.str k :: its)]) := fun s => by
      show s.1.st (rm (T ++ _) a s.2) = _
      rw [rm_app ha]
    rw [eS, eS] at h1
    have hty := top_ty (b := s1.1) (J := []) (U := rm T a s1.2) (L := T.length) (acc := .str k :: its) (by simp)
    have hty2 := top_ty (b := s2.1) (J := []) (U := rm T a s2.2) (L := T.length) (acc := .str k :: its) (by simp)
    have hap := top_app (b := s2.1) (J := []) (U := rm T a s2.2) (L := T.length) (acc := .str k :: its) (x := w) (by simp) (by simp; omega)
    have hsub : ((d : Int) + 1 - 1) = d := by omega
    have hbody : sExpr (eMeth "list" appendM (eVar 7) [(eCall (F (n + 7) .f__law_item) [(eVar 0), (eVar 8), (eVar 1), (e2 subW (eVar 2) (eC (.int 1))), (eVar 6)])])
        [some (.ref 3), some (.ref (a + 4)), some (.int ((d : Int) + 1)), some (.int (kI kept)), some SHD, some (.str k), some (.int (kI k2)), some (.ref (T.length + 4)), some (chrW c)] (s1.1.st (rm T a s1.2 ++ [.lst (.str k :: its)]))
        = .nx [some (.ref 3), some (.ref (a + 4)), some (.int ((d : Int) + 1)), some (.int (kI kept)), some SHD, some (.str k), some (.int (kI k2)), some (.ref (T.length + 4)), some (chrW c)] (s2.1.st (rm T a s2.2 ++ [.lst (.str k :: (its ++ [w]))])) := by
      simp [hty, hsub, h1, hap]
    refine .inr ⟨chrW c, [some (.ref 3), some (.ref (a + 4)), some (.int ((d : Int) + 1)), some (.int (kI kept)), some SHD, some (.str k), some (.int (kI k2)), some (.ref (T.length + 4)), some (chrW c)], _, by simp [itT, hc], rfl, ?_⟩
    rw [hbody]
    refine ⟨by omega, its ++ [w], s2, some (chrW c), rfl, rfl, by rw [List.length_append, hil]; rfl, ?_⟩
    exact hit.push (by rw [hil]; exact hc) h2
  · have hie : i = sh.length := by omega
    have hnone : (sh.cps.toList.map chrW)[i]? = none := by rw [List.getElem?_map, List.getElem?_eq_none (by rw [len_cps]; omega)]; rfl
    refine .inl ⟨by show some _ = some none; rw [hnone], its, s1, x8, rfl, by omega, hit⟩
theorem expr_tail (hT : OkT T) {a : Nat} (ha : a < T.length) {d : Nat} {kept : Bool} {k sh : Str} (hs : shapeOf k = some sh) (hk : (kept && decide (k ∈ leavingL)) = false)
    (hI : ∀ k2 acc, lowWs (T.length + 5) acc = true → ∀ c, c ∈ [101, 110, 116, 120, 111, 99, 109, 108, 100, 97] → ∀ s, ∃ w s', F (n + 7) .f__law_item [.ref 3, chrW c, .ref (a + 4), .int d, .int (kI k2)] (rst (T ++ [.lst acc]) a s) = .ok w (rst (T ++ [.lst acc]) a s') ∧ Gi d k2 c w s.2 s'.2)
    (s0 s : Bag × Int) (h1s : 1 ≤ s.2) : ∃ w s', RS.fin (rst T a s0) (sSeq (sSet 6 (eN maxN [(eVar 3), (eN intN [(e2 eqW (eVar 5) (eC (.str ⟨#[107, 101, 101, 112]⟩)))])]))
      (sSeq (sSet 7 (eN (lstN true) [(eVar 5)]))
      (sSeq (sFor (iE (e2 (getW gdT) (eVar 4) (eVar 5))) (gVar 8) (sExpr (eMeth "list" appendM (eVar 7) [(eCall (F (n + 7) .f__law_item) [(eVar 0), (eVar 8), (eVar 1), (e2 subW (eVar 2) (eC (.int 1))), (eVar 6)])])))
      (sRet (e2 (getW gdT) (eN (lstN false) [(eVar 7), (eN tupleN [(eVar 7)])]) (eN minN [(eCall (F (n + 7) .f__law_draw) [(eVar 0), (eC (.int 3))]), (eC (.int 1))])))))
      [some (.ref 3), some (.ref (a + 4)), some (.int ((d : Int) + 1)), some (.int (kI kept)), some SHD, some (.str k), none, none, none] (rst T a s)) = .ok w (rst T a s') ∧ Gd (d + 1) kept w (s.2 + 1) s'.2 := by
  obtain ⟨its, s1, x8, h1, h2, h3⟩ := items_loop (n := n) (kept := kept) (r := d) hT ha (k2 := kept || decide (k = "keep")) hs (hI _) s
  have hits := h3.dt (by rw [len_cps]; omega)
  have hlow : ∀ m, lowWs m (.str k :: its) = true := fun m => lowWs_all.mpr fun q hq => by
    rcases List.mem_cons.mp hq with rfl | hq
    · rfl
    · exact dt_low (hits q hq)
  have hT1 : OkT (rm T a s1.2 ++ [.lst (.str k :: its)]) := okT_push (okT_rm hT) (hlow _)
  obtain ⟨q, b2, e1, hq⟩ := draw_eq (n := n + 5) (b := s1.1) hT1 (k := 3) (by decide) (by decide)
  have e1 : F (n + 7) .f__law_draw [.ref 3, .int 3] (s1.1.st (rm T a s1.2 ++ [.lst (.str k :: its)])) = .ok (.int q) (b2.st (rm T a s1.2 ++ [.lst (.str k :: its)])) := e1
  have htup := top_tuple (b := s1.1) (J := []) (U := rm T a s1.2) (L := T.length) (acc := .str k :: its) (by simp)
  have h6 : ∀ S, eN maxN [(eVar 3), (eN intN [(e2 eqW (eVar 5) (eC (.str ⟨#[107, 101, 101, 112]⟩)))])] [some (.ref 3), some (.ref (a + 4)), some (.int ((d : Int) + 1)), some (.int (kI kept)), some SHD, some (.str k), none, none, none] S = .ok (.int (kI (kept || decide (k = "keep")))) S := fun S => by
    by_cases hkk : k = ⟨#[107, 101, 101, 112]⟩
    · cases kept <;> simp [hkk, kI]
    · cases kept <;> simp [hkk, kI]
  have hlst : ∀ S : Store, eN (lstN true) [(eVar 5)] [some (.ref 3), some (.ref (a + 4)), some (.int ((d : Int) + 1)), some (.int (kI kept)), some SHD, some (.str k), some (.int (kI (kept || decide (k = "keep")))), none, none] S = .ok (.ref S.length) (S ++ [.lst [.str k]]) := fun S => by simp
  rw [sSeq_ap, sSet_ap, h6, R.thn_ok, RS.seq_nx, sSeq_ap, sSet_ap]
  simp only [List.set_cons_zero, List.set_cons_succ]
  rw [hlst, R.thn_ok, RS.seq_nx, sSeq_ap]
  simp only [List.set_cons_zero, List.set_cons_succ, st_app, st_len, rm_len]
  rw [h1, RS.seq_nx]
  have hcases : q = 0 ∨ q = 1 ∨ q = 2 := by omega
  rcases hcases with rfl | rfl | rfl
  · have hc := cut_gen_lst (b := s0.1) (b' := b2) (T := rm T a s0.2) (T' := rm T a s1.2) (J := []) (ws := .str k :: its) (by simp) (okT_rm hT) (hlow _)
    simp only [rm_len] at hc
    refine ⟨.lst (.str k :: its), (b2, s1.2), ?_, gd_row rfl hs hk h2 h3 h1s⟩
    simp [htup, e1, hc]
  · have hg : Gd (d + 1) kept (.tup (.str k :: its)) (s.2 + 1) s1.2 := gd_row rfl hs hk h2 h3 h1s
    have hc := cut_gen (b := s0.1) (b' := b2) (T := rm T a s0.2) (T' := rm T a s1.2) (J := [.lst (.str k :: its)]) (w := .tup (.str k :: its)) (by simp) (okT_rm hT) (hlow _)
    refine ⟨.tup (.str k :: its), (b2, s1.2), ?_, hg⟩
    simp [htup, e1, hc]
  · have hg : Gd (d + 1) kept (.tup (.str k :: its)) (s.2 + 1) s1.2 := gd_row rfl hs hk h2 h3 h1s
    have hc := cut_gen (b := s0.1) (b' := b2) (T := rm T a s0.2) (T' := rm T a s1.2) (J := [.lst (.str k :: its)]) (w := .tup (.str k :: its)) (by simp) (okT_rm hT) (hlow _)
    refine ⟨.tup (.str k :: its), (b2, s1.2), ?_, hg⟩
    simp [htup, e1, hc]
theorem expression_eq : ∀ (d n : Nat) (T : Store) (a : Nat) (kept : Bool) (s : Bag × Int), OkT T → a < T.length → 2 * d + 8 ≤ n →
    ∃ w s', F n .f__law_expression [.ref 3, .ref (a + 4), .int d, .int (kI kept)] (rst T a s) = .ok w (rst T a s') ∧ Gd (max d 1) kept w s.2 s'.2 := by
  have leafc : ∀ (d n : Nat) (T : Store) (a : Nat) (kept : Bool) (s : Bag × Int), OkT T → a < T.length → (d ≤ 1 ∨ s.2 - 1 ≤ 0) →
      ∃ w s', F (n + 8) .f__law_expression [.ref 3, .ref (a + 4), .int d, .int (kI kept)] (rst T a s) = .ok w (rst T a s') ∧ Gd 1 kept w s.2 s'.2 := fun d n T a kept s hT ha h => by
    obtain ⟨w, b', h1, h2⟩ := leaf_eq (n := n + 1) (b := s.1) (okT_rm (a := a) (r := s.2 - 1) hT) kept
    refine ⟨w, (b', s.2 - 1), ?_, gd_leaf h2 (by dsimp only; omega)⟩
    have hc := cut_rst (a := a) hT s (b', s.2 - 1) (isW_dt h2)
    rw [F__law_expression]
    have g1 := get_room (b := s.1) (r := s.2) ha
    have g2 := get_room (b := s.1) (r := s.2 - 1) ha
    have g3 := set_room (b := s.1) (r := s.2) (r' := s.2 - 1) ha
    simp [b__law_expression, g1, g2, g3, h1, hc]
    intro q1 q2
    omega
  intro d
  induction d with
  | zero =>
    intro n T a kept s hT ha hn
    obtain ⟨m, rfl⟩ : ∃ m, n = m + 8 := ⟨n - 8, by omega⟩
    exact leafc 0 m T a kept s hT ha (.inl (by omega))
  | succ d ih =>
    intro n T a kept s hT ha hn
    by_cases hleaf : d + 1 ≤ 1 ∨ s.2 - 1 ≤ 0
    · obtain ⟨m, rfl⟩ : ∃ m, n = m + 8 := ⟨n - 8, by omega⟩
      obtain ⟨w, s', h1, h2⟩ := leafc (d + 1) m T a kept s hT ha hleaf
      have hmx : max (d + 1) 1 = d + 1 := by omega
      rw [hmx]
      exact ⟨w, s', h1, h2.mono1⟩
    · obtain ⟨m, rfl⟩ : ∃ m, n = m + 8 := ⟨n - 8, by omega⟩
      have hmx : max (d + 1) 1 = d + 1 := by omega
      have hmd : max d 1 = d := by omega
      rw [hmx]
      have hI : ∀ k2 acc, lowWs (T.length + 5) acc = true → ∀ c, c ∈ [101, 110, 116, 120, 111, 99, 109, 108, 100, 97] → ∀ s, ∃ w s', F (m + 7) .f__law_item [.ref 3, chrW c, .ref (a + 4), .int d, .int (kI k2)] (rst (T ++ [.lst acc]) a s) = .ok w (rst (T ++ [.lst acc]) a s') ∧ Gi d k2 c w s.2 s'.2 := fun k2 acc hacc c hc s => by
        have hT1 : OkT (T ++ [.lst acc]) := okT_push hT hacc
        have ha1 : a < (T ++ [Ob.lst acc]).length := by simp; omega
        exact item_eq hT1 ha1 (fun s => by
          have := ih (m + 6) (T ++ [.lst acc]) a k2 s hT1 ha1 (by omega)
          rw [hmd] at this
          exact this) hc s
      obtain ⟨q, b1, e1, hq⟩ := draw_eq (n := m + 5) (b := s.1) (okT_rm (a := a) (r := s.2 - 1) hT) (k := 42) (by decide) (by decide)
      have e1 : F (m + 7) .f__law_draw [.ref 3, .int 42] (s.1.st (rm T a (s.2 - 1))) = .ok (.int q) (b1.st (rm T a (s.2 - 1))) := e1
      obtain ⟨k, sh, hk, hs⟩ := key_at hq
      have hsp : F (m + 7) .f__law_shapes [] (s.1.st (rm T a (s.2 - 1))) = .ok SHD (s.1.st (rm T a (s.2 - 1))) := shapes_eq (n := m + 6) (clo_st (okT_rm hT))
      have hle : ∀ S, inW gdT (.str k) (.lst [.str ⟨#[98, 97, 99, 107]⟩, .str ⟨#[111, 117, 116]⟩, .str ⟨#[102, 97, 108, 108]⟩]) S = some (.bl (decide (k ∈ leavingL)), S) := fun S => in_strsL (xs := leavingL)
      have g1 := get_room (b := s.1) (r := s.2) ha
      have g2 := get_room (b := s.1) (r := s.2 - 1) ha
      have g3 := set_room (b := s.1) (r := s.2) (r' := s.2 - 1) ha
      have hd1 : ¬ ((d : Int) + 1 ≤ 1) := by omega
      have hd2 : ¬ (s.2 - 1 ≤ 0) := by omega
      have hpre : ∀ M, (∀ k', k' = (if kept = true ∧ k ∈ leavingL then ⟨#[115, 97, 121]⟩ else k) → ∃ w s', RS.fin (rst T a s) (M [some (.ref 3), some (.ref (a + 4)), some (.int ((d : Int) + 1)), some (.int (kI kept)), some SHD, some (.str k'), none, none, none] (rst T a (b1, s.2 - 1))) = .ok w (rst T a s') ∧ Gd (d + 1) kept w s.2 s'.2) →
          ∃ w s', runDef 4 9 (sSeq (sSetIx setW (eVar 1) (eC (.int 0)) (e2 subW (e2 (getW gdT) (eVar 1) (eC (.int 0))) (eC (.int 1))))
  (sSeq (sIf (tOr (tB (e2 leW (eVar 2) (eC (.int 1)))) (tB (e2 leW (e2 (getW gdT) (eVar 1) (eC (.int 0))) (eC (.int 0))))) (sRet (eCall (F (m + 7) .f__law_leaf) [(eVar 0), (eVar 3)])) sNil)
  (sSeq (sSet 4 (eCall (F (m + 7) .f__law_shapes) []))
  (sSeq (sSet 5 (e2 (getW gdT) (eN (listN false) [(eVar 4)]) (eCall (F (m + 7) .f__law_draw) [(eVar 0), (eN lenN [(eVar 4)])])))
  (sSeq (sIf (tAnd (tB (e2 eqW (eVar 3) (eC (.int 1)))) (tB (e2 (inW gdT) (eVar 5) (eN (lstN false) [(eC (.str ⟨#[98, 97, 99, 107]⟩)), (eC (.str ⟨#[111, 117, 116]⟩)), (eC (.str ⟨#[102, 97, 108, 108]⟩))])))) (sSet 5 (eC (.str ⟨#[115, 97, 121]⟩))) sNil) M))))) [.ref 3, .ref (a + 4), .int ((d : Int) + 1), .int (kI kept)] (rst T a s) = .ok w (rst T a s') ∧ Gd (d + 1) kept w s.2 s'.2 := fun M hM => by
        obtain ⟨w, s', h1, h2⟩ := hM _ rfl
        refine ⟨w, s', ?_, h2⟩
        by_cases hkl : kept = true ∧ k ∈ leavingL
        · rw [if_pos hkl] at h1
          have hk1 : kI kept = 1 := by rw [hkl.1]; rfl
          simp [g1, g2, g3, hd1, hd2, hsp, len_SHD, list_SHD, e1, hk, hk1, hle, hkl.2] at h1 ⊢
          exact h1
        · rw [if_neg hkl] at h1
          simp [g1, g2, g3, hd1, hd2, hsp, len_SHD, list_SHD, e1, hk, hle] at h1 ⊢
          rw [if_neg (by
            rintro ⟨h5, h6⟩
            refine hkl ⟨?_, h6⟩
            cases kept with
            | true => rfl
            | false => exact absurd h5 (by decide))]
          exact h1
      rw [F__law_expression]
      refine hpre _ fun k' hk' => ?_
      by_cases hkl : kept = true ∧ k ∈ leavingL
      · rw [if_pos hkl] at hk'
        subst hk'
        have := expr_tail (n := m) (kept := kept) hT ha (sh := "e") say_shape (by simp [say_leav2]) hI s (b1, s.2 - 1) (by dsimp only; omega)
        dsimp only at this
        rw [show s.2 - 1 + 1 = s.2 by omega] at this
        exact this
      · rw [if_neg hkl] at hk'
        subst hk'
        have := expr_tail (n := m) (kept := kept) hT ha hs (by cases kept <;> simp_all) hI s (b1, s.2 - 1) (by dsimp only; omega)
        dsimp only at this
        rw [show s.2 - 1 + 1 = s.2 by omega] at this
        exact this
end Sh

set_option Elab.async false
set_option linter.all false
set_option maxRecDepth 100000
set_option maxHeartbeats 4000000
namespace Sh
open PySem L2
variable {n : Nat} {S : Store} {b b' : Bag} {T J : Store}
/-! ### odd -/
structure Sm (w : W) : Prop where
  ok : OkW w
  wt : wtW w ≤ 2000
  dp : dpW w ≤ 5
  cn : cnW w ≤ 20
def smB (w : W) : Bool := dtW w && (chW w && (decide (wtW w ≤ 2000) && (decide (dpW w ≤ 5) && decide (cnW w ≤ 20))))
theorem sm_of {w : W} (h : smB w = true) : Sm w := by
  simp only [smB, Bool.and_eq_true, decide_eq_true_eq] at h
  exact ⟨⟨h.1, h.2.1⟩, h.2.2.1, h.2.2.2.1, h.2.2.2.2⟩
def hereW : W := .tup [.str ⟨#[104, 101, 114, 101]⟩]
theorem letters_any (hT : OkT T) {k : Nat} (h8 : k ≤ 20) : ∃ (x : Str) (b' : Bag), F (n + 3) .f__law_letters [.ref 3, .int k] (b.st T) = .ok (.str x) (b'.st T) ∧ smallS x = true := by
  obtain ⟨cs, b', e1, e2, e3⟩ := draws_join (b := b) (T := T) (it := iRange1 (eVar 1)) (own := [2]) (v := 2) (a := e2 (getW gdT) (eC (.str abcS)) (eCall (F (n + 2) .f__law_draw) [eVar 0, eC (.int 26)])) (e := [some (.ref 3), some (.int k), none])
    (fun c => letterB c = true) k (by omega) (iRange1_ok (n := k) rfl (by omega)) (fun i b hi => abc_step hT rfl b)
  have hl : smallS ⟨cs.toArray⟩ = true := by
    simp only [smallS, Bool.and_eq_true, decide_eq_true_eq]
    have : (⟨cs.toArray⟩ : Str).length = cs.length := by simp
    refine ⟨by omega, List.all_eq_true.mpr fun c hc => ?_⟩
    have := e3 c (by simpa using hc)
    simp only [letterB, Bool.and_eq_true, decide_eq_true_eq] at this
    simp; omega
  refine ⟨⟨cs.toArray⟩, b', ?_, hl⟩
  rw [F__law_letters]
  have hb : b__law_letters (F (n + 2)) = sRet (eMeth "str" joinM (eC (.str ⟨#[]⟩)) [eLc false (iRange1 (eVar 1)) [2] (gVar 2) tYesM (Sh.e2 (getW gdT) (eC (.str abcS)) (eCall (F (n + 2) .f__law_draw) [eVar 0, eC (.int 26)]))]) := rfl
  rw [hb]
  exact join_ret hT rfl rfl e1
theorem mul_b : ∀ k : Nat, k < 31 → smB (.str (Txt.mul ⟨#[98]⟩ (k : Int))) = true := by decide +kernel
theorem dicN1 {i : Int} {w : W} : dicN false [.int i, w] S = some (.dic [.inl i] [w], S) := rfl
theorem odd_pick (hT : OkT T) {L : List W} {N s : Nat} {z : Int} {env : En} {b0 : Bag} (hz : z = (s : Int) % (N : Int)) (hN : L.length = N) (h0 : 0 < N) (hL : ∀ w ∈ L, Sm w) :
    ∃ u, (∃ x : Bag, RS.fin (b0.st T) ((lift (Option.map (fun w => (w, b.st T)) (atI L z))).thn env fun w S1 => RS.ret w S1) = R.ok u (x.st T)) ∧ Sm u := by
  obtain ⟨j, hj, hjl⟩ : ∃ j : Nat, z = j ∧ j < N := ⟨s % N, by rw [hz]; simp, Nat.mod_lt _ h0⟩
  obtain ⟨w, hw⟩ : ∃ w, L[j]? = some w := ⟨_, List.getElem?_eq_getElem (by omega)⟩
  have hs := hL w (List.mem_of_getElem? hw)
  refine ⟨w, ⟨b, ?_⟩, hs⟩
  rw [hj, atI_n, hw]
  simp
  exact cut_st0 hT (dt_low hs.ok.dt)
theorem sm_all {L : List W} (h : L.all smB = true) : ∀ w ∈ L, Sm w := fun w hw => sm_of (List.all_eq_true.mp h w hw)
theorem sm_name {x : Str} (h : smallS x = true) : Sm (.tup [.str ⟨#[110, 97, 109, 101]⟩, .str x]) := by
  have := small_pl h
  have h1 := this.wt
  have h2 := this.ok.dt
  have h3 := this.ok.ch
  simp only [wtW] at h1
  exact ⟨⟨by simp [dtW, dtWs] at h2 ⊢; omega, by simp [chW, chWs] at h3 ⊢; exact h3⟩, by simp [wtW, wtWs]; omega, by simp [dpW, dpWs], by simp [cnW, cnWs]⟩
theorem sm_num {k : Str} {z : Int} (hk : smallS k = true) (h : -100000 ≤ z ∧ z ≤ 100000) : Sm (.tup [.str k, .int z]) := by
  have := small_pl hk
  have h1 := this.wt
  have h2 := this.ok.dt
  have h3 := this.ok.ch
  simp only [wtW] at h1
  refine ⟨⟨?_, by simp [chW, chWs] at h3 ⊢; exact h3⟩, by simp [wtW, wtWs]; omega, by simp [dpW, dpWs], by simp [cnW, cnWs]⟩
  simp [dtW, dtWs] at h2 ⊢
  omega
theorem sm_most {k : Str} {z : Int} {w : W} (hk : smallS k = true) (h : -100000 ≤ z ∧ z ≤ 100000) (hw : smB w = true) (hw2 : wtW w ≤ 1000) (hw3 : dpW w ≤ 3) (hw4 : cnW w ≤ 9) : Sm (.tup [.str k, .int z, w]) := by
  have := small_pl hk
  have h1 := this.wt
  have h2 := this.ok.dt
  have h3 := this.ok.ch
  have hs := sm_of hw
  simp only [wtW] at h1
  refine ⟨⟨?_, by simp [chW, chWs, hs.ok.ch] at h3 ⊢; exact h3⟩, by simp [wtW, wtWs]; omega, by simp [dpW, dpWs]; omega, by simp [cnW, cnWs]; omega⟩
  simp [dtW, dtWs, hs.ok.dt] at h2 ⊢
  omega
theorem sm_b {k : Nat} (h : k < 31) : Sm (.tup [.str ⟨#[116, 101, 120, 116]⟩, .str (Txt.mul ⟨#[98]⟩ (k : Int))]) := by
  have : ∀ k : Nat, k < 31 → smB (.tup [.str ⟨#[116, 101, 120, 116]⟩, .str (Txt.mul ⟨#[98]⟩ (k : Int))]) = true := by decide +kernel
  exact sm_of (this k h)
theorem words_small : ∀ w ∈ wordsL, smallS w = true := by decide +kernel
theorem odd_eq (hT : OkT T) : ∃ (u : W) (b' : Bag), F (n + 4) .f__law_odd [.ref 3] (b.st T) = .ok u (b'.st T) ∧ Sm u := by
  obtain ⟨c, b1, e1, hc⟩ := draw_eq (n := n + 1) (b := b) hT (k := 5) (by decide) (by decide)
  obtain ⟨s, b2, e2, hs⟩ := draw_eq (n := n + 1) (b := b1) hT (k := 60) (by decide) (by decide)
  have e1 : F (n + 3) .f__law_draw [.ref 3, .int 5] (b.st T) = .ok (.int c) (b1.st T) := e1
  have e2 : F (n + 3) .f__law_draw [.ref 3, .int 60] (b1.st T) = .ok (.int s) (b2.st T) := e2
  rw [F__law_odd]
  have hcs : c = 0 ∨ c = 1 ∨ c = 2 ∨ (c = 3 ∨ c = 4) := by omega
  rcases hcs with rfl | rfl | rfl | hc34
  · obtain ⟨q, b3, e3, hq⟩ := draw_eq (n := n + 1) (b := b2) hT (k := 4001) (by decide) (by decide)
    have e3 : F (n + 3) .f__law_draw [.ref 3, .int 4001] (b2.st T) = .ok (.int q) (b3.st T) := e3
    obtain ⟨x, b4, e4, hx⟩ := letters_any (n := n) (b := b3) hT (k := s / 5) (by omega)
    have e4 : F (n + 3) .f__law_letters [.ref 3, .int ((s : Int) / 5)] (b3.st T) = .ok (.str x) (b4.st T) := by
      have := e4
      push_cast at this
      exact this
    have e5 := law_words_eq (n := n + 2) (clo_st (b := b4) hT)
    have e5 : F (n + 3) .f__law_words [] (b4.st T) = .ok (.lst (wordsL.map W.str)) (b4.st T) := e5
    obtain ⟨i, b5, e6, hi⟩ := draw_eq (n := n + 1) (b := b4) hT (k := 36) (by decide) (by decide)
    have e6 : F (n + 3) .f__law_draw [.ref 3, .int 36] (b4.st T) = .ok (.int i) (b5.st T) := e6
    have hwl : wordsL.length = 36 := by decide +kernel
    obtain ⟨w, hw⟩ : ∃ w, wordsL[i]? = some w := ⟨_, List.getElem?_eq_getElem (by rw [hwl]; exact hi)⟩
    have hw2 : (wordsL.map W.str)[i]? = some (.str w) := by rw [List.getElem?_map, hw]; rfl
    have hws := words_small w (List.mem_of_getElem? hw)
    have hlb : ((s : Int) / 2) ≤ 1000 := by omega
    have hlb2 : -9223372036854775808 ≤ (s : Int) / 2 := by omega
    have hsb := sm_b (k := s / 2) (by omega)
    push_cast at hsb
    simp [b__law_odd, e1, e2, e3, e4, e5, e6, hw2, hlb, hlb2]
    refine odd_pick hT (N := 12) (s := s) rfl rfl (by omega) ?_
    have cl := sm_all (L := [.tup [.str ⟨#[116, 101, 120, 116]⟩, .str ⟨#[97, 33, 39, 99]⟩], .tup [.str ⟨#[116, 101, 120, 116]⟩, .str ⟨#[97, 10, 99]⟩], .tup [.str ⟨#[116, 101, 120, 116]⟩, .str ⟨#[32, 126]⟩], .tup [.str ⟨#[116, 101, 120, 116]⟩, .str ⟨#[]⟩], .tup [.str ⟨#[110, 117, 109, 98, 101, 114]⟩, .int 999], .tup [.str ⟨#[110, 117, 109, 98, 101, 114]⟩, .int (-1000)], .tup [.str ⟨#[109, 111, 115, 116]⟩, .int 20, .lst [.tup [.str ⟨#[104, 101, 114, 101]⟩]]]]) (by decide +kernel)
    have s1 := sm_num (k := ⟨#[110, 117, 109, 98, 101, 114]⟩) (z := (q : Int) - 2000) (by decide) (by omega)
    have s2 := sm_name hx
    have s3 := sm_most (k := ⟨#[109, 111, 115, 116]⟩) (z := (s : Int) - 29) (w := hereW) (by decide) (by omega) (by decide +kernel) (by decide +kernel) (by decide +kernel) (by decide +kernel)
    have s4 := sm_name hws
    simp only [List.mem_cons, forall_eq_or_imp, List.not_mem_nil, false_imp_iff, implies_true, and_true] at cl ⊢
    exact ⟨s1, s2, s3, s4, hsb, cl⟩
  · simp [b__law_odd, e1, e2, dicN1]
    exact odd_pick hT (N := 17) (s := s) rfl rfl (by omega) (sm_all (by decide +kernel))
  · simp [b__law_odd, e1, e2]
    exact odd_pick hT (N := 21) (s := s) rfl rfl (by omega) (sm_all (by decide +kernel))
  · have h0 : ¬ (c : Int) = 0 := by omega
    have h1 : ¬ (c : Int) = 1 := by omega
    have h2 : ¬ (c : Int) = 2 := by omega
    have h0' : ¬ c = 0 := by omega
    have h1' : ¬ c = 1 := by omega
    have h2' : ¬ c = 2 := by omega
    simp [b__law_odd, e1, e2, h0, h1, h2, h0', h1', h2']
    exact odd_pick hT (N := 20) (s := s) rfl rfl (by omega) (sm_all (by decide +kernel))
end Sh

set_option Elab.async false
set_option linter.all false
set_option maxRecDepth 100000
set_option maxHeartbeats 4000000
namespace Sh
open PySem PySem.Spec PyProof.Rows L2
/-! ### repr -/
structure PyG (d : PyData) (wt dp : Nat) : Prop where
  l : d.leavesShort 14 = true
  s : d.showable = true
  dp : d.depth ≤ dp
  wt : d.weight ≤ 2 * wt
structure PyGs (ds : List PyData) (wt dp : Nat) : Prop where
  l : PyData.leavesShortAll 14 ds = true
  s : PyData.showableAll ds = true
  dp : PyData.depthAll ds ≤ dp
  wt : PyData.weightAll ds ≤ 2 * wt
structure PyGk (ds : List (PyData × PyData)) (wt dp : Nat) : Prop where
  l : PyData.leavesShortKv 14 ds = true
  s : PyData.showableKv ds = true
  dp : PyData.depthKv ds ≤ dp
  wt : PyData.weightKv ds ≤ 2 * wt
theorem log_small {i : Int} (h : i.natAbs ≤ 1000000000000) : i.natAbs.log2 ≤ 39 := by
  have : i.natAbs < 2 ^ 40 := by omega
  by_cases h0 : i.natAbs = 0
  · rw [h0]; decide
  · have := (Nat.log2_lt h0).mpr this
    omega
theorem int_g {i : Int} (h : i.natAbs ≤ 1000000000000) : PyG (.int i) 30 0 := by
  have hl := log_small h
  refine ⟨?_, ?_, Nat.le_refl _, ?_⟩
  · simp only [PyData.leavesShort, decide_eq_true_eq]
    show (Str.ofString (toString i)).length ≤ 14
    rw [PySem.ofString_length]
    exact int_text_length_le10 (k := 13) (by decide) (by omega)
  · simp only [PyData.showable, decide_eq_true_eq]; omega
  · simp only [PyData.weight]; split <;> omega
theorem str_g {x : Str} (h : (x.cps.toList.all fun c => decide (c < 1000)) = true) : PyG (.str x) (10 * x.length + 4) 0 := by
  refine ⟨?_, rfl, Nat.le_refl _, ?_⟩
  · simp only [PyData.leavesShort, List.all_eq_true, decide_eq_true_eq] at h ⊢
    intro c hc
    have := h c hc
    omega
  · simp only [PyData.weight]
    show x.length ≤ _
    omega
theorem kv_g : ∀ {ks : List Key} {ds : List PyData} {wt dp : Nat}, (ks.all fun k => match k with | .inl i => decide (-1000 ≤ i) && decide (i ≤ 1000) | .inr x => x.cps.toList.all fun c => decide (c < 1000)) = true → PyGs ds wt dp → PyGk ((ks.map keyD).zip ds) (wtKs ks + wt) dp
  | [], ds, wt, dp, _, h => ⟨rfl, rfl, Nat.zero_le _, Nat.zero_le _⟩
  | k :: ks, [], wt, dp, _, h => ⟨rfl, rfl, Nat.zero_le _, Nat.zero_le _⟩
  | k :: ks, d :: ds, wt, dp, hk, h => by
    obtain ⟨h1, h2, h3, h4⟩ := h
    simp only [PyData.leavesShortAll, PyData.showableAll, Bool.and_eq_true] at h1 h2
    simp only [PyData.depthAll] at h3
    simp only [PyData.weightAll] at h4
    rw [List.all_cons, Bool.and_eq_true] at hk
    have ih := kv_g (ks := ks) (ds := ds) (wt := wt) (dp := dp) hk.2 ⟨h1.2, h2.2, by omega, by omega⟩
    have ih2 : PyData.weightKv ((ks.map keyD).zip ds) ≤ 2 * (wtKs ks) + PyData.weightAll ds := by
      have : ∀ (ks : List Key) (ds : List PyData), (ks.all fun k => match k with | .inl i => decide (-1000 ≤ i) && decide (i ≤ 1000) | .inr x => x.cps.toList.all fun c => decide (c < 1000)) = true → PyData.weightKv ((ks.map keyD).zip ds) ≤ 2 * (wtKs ks) + PyData.weightAll ds := by
        intro ks
        induction ks with
        | nil => intro ds _; simp [PyData.weightKv]
        | cons k ks ih =>
          intro ds hk
          cases ds with
          | nil => simp [PyData.weightKv]
          | cons d ds =>
            rw [List.all_cons, Bool.and_eq_true] at hk
            have := ih ds hk.2
            simp only [List.map_cons, List.zip_cons_cons, PyData.weightKv, PyData.weightAll]
            cases k with
            | inl i =>
              have hk1 := hk.1
              simp only [Bool.and_eq_true, decide_eq_true_eq] at hk1
              have := (int_g (i := i) (by omega)).wt
              simp only [keyD, wtKs]; omega
            | inr x =>
              have := (str_g hk.1).wt
              simp only [keyD, wtKs]; omega
      exact this ks ds hk.2
    have hkd : (keyD k).leavesShort 14 = true ∧ (keyD k).showable = true ∧ (keyD k).depth = 0 ∧ (keyD k).weight + 2 + 2 * wtKs ks ≤ 2 * wtKs (k :: ks) := by
      cases k with
      | inl i =>
        have hk1 := hk.1
        simp only [Bool.and_eq_true, decide_eq_true_eq] at hk1
        have := int_g (i := i) (by omega)
        exact ⟨this.l, this.s, rfl, by have := this.wt; simp only [keyD, wtKs]; omega⟩
      | inr x =>
        have := str_g hk.1
        exact ⟨this.l, this.s, rfl, by have := this.wt; simp only [keyD, wtKs]; omega⟩
    obtain ⟨k1, k2, k3, k4⟩ := hkd
    refine ⟨?_, ?_, ?_, ?_⟩
    · simp only [List.map_cons, List.zip_cons_cons, PyData.leavesShortKv, k1, h1.1, ih.l, Bool.and_self]
    · simp only [List.map_cons, List.zip_cons_cons, PyData.showableKv, k2, h2.1, ih.s, Bool.and_self]
    · have := ih.dp
      simp only [List.map_cons, List.zip_cons_cons, PyData.depthKv, k3]
      omega
    · simp only [List.map_cons, List.zip_cons_cons, PyData.weightKv]
      omega
mutual
theorem py_of : ∀ (w : W), dtW w = true → chW w = true → ∃ d, pyW w = some d ∧ PyG d (wtW w) (dpW w)
  | .non, _, _ => ⟨_, rfl, rfl, rfl, Nat.le_refl _, Nat.zero_le _⟩
  | .bl b, _, _ => ⟨_, rfl, rfl, rfl, Nat.le_refl _, Nat.zero_le _⟩
  | .int i, h, _ => ⟨_, rfl, int_g (by
      simp only [dtW, Bool.and_eq_true, decide_eq_true_eq] at h
      omega)⟩
  | .str x, _, h => ⟨_, rfl, str_g h⟩
  | .tup ws, h1, h2 => by
    simp only [dtW, Bool.and_eq_true, decide_eq_true_eq] at h1
    obtain ⟨ds, e, g⟩ := pys_of ws h1.2 h2
    refine ⟨.tuple ds, by simp only [pyW, e, Option.map_some], g.l, g.s, ?_, ?_⟩
    · have := g.dp
      simp only [PyData.depth, dpW]; omega
    · have := g.wt
      simp only [PyData.weight, wtW]; omega
  | .lst ws, h1, h2 => by
    simp only [dtW, Bool.and_eq_true, decide_eq_true_eq] at h1
    obtain ⟨ds, e, g⟩ := pys_of ws h1.2 h2
    refine ⟨.list ds, by simp only [pyW, e, Option.map_some], g.l, g.s, ?_, ?_⟩
    · have := g.dp
      simp only [PyData.depth, dpW]; omega
    · have := g.wt
      simp only [PyData.weight, wtW]; omega
  | .dic ks ws, h1, h2 => by
    simp only [dtW, Bool.and_eq_true, decide_eq_true_eq] at h1
    simp only [chW, Bool.and_eq_true] at h2
    obtain ⟨ds, e, g⟩ := pys_of ws h1.2 h2.2
    have g2 := kv_g h2.1 g
    refine ⟨.dict ((ks.map keyD).zip ds), by simp only [pyW, e, Option.map_some], g2.l, g2.s, ?_, ?_⟩
    · have := g2.dp
      simp only [PyData.depth, dpW]; omega
    · have := g2.wt
      simp only [PyData.weight, wtW]; omega
  | .ref _, h, _ => by cases h
  | .ty _, h, _ => by cases h
  | .glo _, h, _ => by cases h
  | .scr _, h, _ => by cases h
theorem pys_of : ∀ (ws : List W), dtWs ws = true → chWs ws = true → ∃ ds, pyWs ws = some ds ∧ PyGs ds (wtWs ws) (dpWs ws)
  | [], _, _ => ⟨[], rfl, rfl, rfl, Nat.zero_le _, Nat.zero_le _⟩
  | w :: ws, h1, h2 => by
    simp only [dtWs, Bool.and_eq_true] at h1
    simp only [chWs, Bool.and_eq_true] at h2
    obtain ⟨d, e, g⟩ := py_of w h1.1 h2.1
    obtain ⟨ds, e2, g2⟩ := pys_of ws h1.2 h2.2
    refine ⟨d :: ds, by simp only [pyWs, e, e2], ?_, ?_, ?_, ?_⟩
    · simp only [PyData.leavesShortAll, g.l, g2.l, Bool.and_self]
    · simp only [PyData.showableAll, g.s, g2.s, Bool.and_self]
    · have := g.dp; have := g2.dp
      simp only [PyData.depthAll, dpWs]; omega
    · have := g.wt; have := g2.wt
      simp only [PyData.weightAll, wtWs]; omega
end
theorem repr_ok {w : W} (h : OkW w) (hw : wtW w ≤ 400000) (hd : dpW w ≤ 60) : ∃ x : Str, ∀ S : Store, reprN [w] S = some (.str x, S) := by
  obtain ⟨d, e, g⟩ := py_of w h.dt h.ch
  have hs := PyData.shown_le 14 (by decide) d g.l
  have h1 := g.wt
  have h2 := g.dp
  have hk : reprOk d = true := by
    unfold reprOk
    rw [g.s]
    simp only [Bool.true_and, Bool.and_eq_true, decide_eq_true_eq, sizeLine_eq]
    refine ⟨by omega, ?_⟩
    have : (14 + 2) * d.weight ≤ 16 * 800000 := Nat.mul_le_mul (by omega) (by omega)
    omega
  refine ⟨d.shown, fun S => ?_⟩
  simp only [reprN, e, hk, if_true]
end Sh

set_option Elab.async false
set_option linter.all false
set_option maxRecDepth 100000
set_option maxHeartbeats 4000000
namespace Sh
open PySem L2
variable {n : Nat} {S : Store} {b b' : Bag} {T J : Store}
/-! ### the bag -/
theorem lc_mapJ {m : Bool} {it : IM} {K : ItM} {own : List Nat} {v : Nat} {a : EM} {e : En} {S0 S : Store} {ws : List W} {f : W → W} (hi : it e S0 = .ok K S) (hK : ∀ i, K i S = some ws[i]?) (hl : ws.length ≤ sizeLine) (ha : ∀ w, w ∈ ws → a ((wipeE e own).set v (some w)) S = .ok (f w) S) :
    eLc m it own (gVar v) tYesM a e S0 = .ok (mkL m (ws.map f) S).1 (mkL m (ws.map f) S).2 := by
  have hf : ws.length < fuel := Nat.lt_of_le_of_lt hl fuel_line
  obtain ⟨xs, S', h1, h2, h3, h4⟩ := lcN_inv (J := K) (g := gVar v) (t := tYesM) (a := a) (e0 := wipeE e own) (fun i acc S' => S' = S ∧ i ≤ ws.length ∧ acc = (ws.take i).map f) ws.length (fun i acc S h => h.2.1) (by
    rintro i acc S' ⟨rfl, hi, rfl⟩
    cases e1 : ws[i]? with
    | none =>
      have := List.getElem?_eq_none_iff.mp e1
      exact .inl ⟨by rw [hK, e1], by omega⟩
    | some w =>
      have hlt := (List.getElem?_eq_some_iff.mp e1).1
      refine .inr ⟨w, _, _, true, _, by rw [hK, e1], rfl, rfl, .inr ⟨rfl, f w, _, ha w (List.mem_of_getElem? e1), ?_, rfl, hlt, ?_⟩⟩
      · rw [List.length_map, List.length_take]; omega
      · rw [List.take_add_one, e1]; simp) fuel 0 [] S (by omega) ⟨rfl, Nat.zero_le _, by simp⟩
  subst h2
  rw [List.take_length] at h4
  subst h4
  simp only [eLc, hi, R.bind_ok, h1, R.noexc]
def absI (i : Int) : Int := if i < 0 then -i else i
theorem bag_eq {ns : List Int} (hl : ns.length ≤ 63) : ∃ b : Bag, F (n + 1) .f__law_bag [.scr ns] [] = .ok (.ref 3) (b.st []) := by
  have hzl : (cutL ns none (some 63)).length ≤ 63 := by
    unfold cutL
    rw [List.length_take, List.length_drop]
    omega
  generalize hz : cutL ns none (some 63) = zs at hzl
  refine ⟨⟨zs, zs.map absI, (zs.map absI).map fun i => decide ((10 : Int) ^ 18 ≤ i), 0, 0, by simp⟩, ?_⟩
  have l1 : eLc true (iE (eCut true (eVar 0) none (some (eC (.int 63))))) [2] (gVar 2) tYesM (eN absN [(eN intN [(eVar 2)])]) [some (.scr ns), none, none] [] = .ok (.ref 1) [.lst (zs.map W.int), .lst ((zs.map absI).map W.int)] := by
    have := lc_mapJ (m := true) (K := itL 0) (own := [2]) (v := 2) (it := iE (eCut true (eVar 0) none (some (eC (.int 63))))) (a := eN absN [(eN intN [(eVar 2)])]) (e := [some (.scr ns), none, none]) (S0 := []) (S := [.lst (zs.map W.int)]) (ws := zs.map W.int) (f := fun w => match w with | .int i => .int (absI i) | w => w)
      (iE_ok (w := .ref 0) (by
        have hc : cutW true (.scr ns) none (some 63) [] = some (.ref 0, [.lst (zs.map W.int)]) := by
          rw [← hz]; rfl
        simp [hc]) rfl) (fun i => rfl) (by rw [List.length_map]; simp only [szl]; omega) (fun w hw => by
        obtain ⟨i, hi, rfl⟩ := List.mem_map.mp hw
        simp [wipeE, absI])
    rw [this, List.map_map, List.map_map]
    rfl
  have l2 : eLc true (iE (eVar 1)) [2] (gVar 2) tYesM (e2 geW (eVar 2) (e2 powW (eC (.int 10)) (eC (.int 18)))) [some (.scr ns), some (.ref 1), none] [.lst (zs.map W.int), .lst ((zs.map absI).map W.int)] = .ok (.ref 2) [.lst (zs.map W.int), .lst ((zs.map absI).map W.int), .lst (((zs.map absI).map fun i => decide ((10 : Int) ^ 18 ≤ i)).map W.bl)] := by
    have hp : ∀ S, powW (.int 10) (.int 18) S = some (.int ((10 : Int) ^ 18), S) := fun S => by
      show (if (0 : Int) ≤ 18 ∧ (18 : Int) ≤ 1000000 ∧ (10 : Int).natAbs < 2 ^ 64 then some (W.int ((10 : Int) ^ (18 : Int).toNat), S) else none) = _
      rw [if_pos (by decide)]
      rfl
    have := lc_mapJ (m := true) (K := itL 1) (own := [2]) (v := 2) (it := iE (eVar 1)) (a := e2 geW (eVar 2) (e2 powW (eC (.int 10)) (eC (.int 18)))) (e := [some (.scr ns), some (.ref 1), none]) (S0 := [.lst (zs.map W.int), .lst ((zs.map absI).map W.int)]) (S := [.lst (zs.map W.int), .lst ((zs.map absI).map W.int)]) (ws := (zs.map absI).map W.int) (f := fun w => match w with | .int i => .bl (decide ((10 : Int) ^ 18 ≤ i)) | w => w)
      (iE_ok (w := .ref 1) rfl rfl) (fun i => rfl) (by rw [List.length_map, List.length_map]; simp only [szl]; omega) (fun w hw => by
        obtain ⟨i, hi, rfl⟩ := List.mem_map.mp hw
        generalize ((10 : Int) ^ 18) = P at hp
        simp only [wipeE, e2_ap, eVar_ap, eC_ap, List.set_cons_zero, List.set_cons_succ, List.getElem?_cons_zero, List.getElem?_cons_succ, R.bind_ok, hp, lift_some, ge_int])
    rw [this]
    simp only [List.map_map, mkL_t]
    rfl
  rw [F__law_bag]
  have hb : runDefO 1 3 (b__law_bag (F n)) [.scr ns] [] = match b__law_bag (F n) [some (.scr ns), none, none] [] with
    | .nx _ S1 => .ok .non S1
    | .ret w S1 => .ok w S1
    | .exc x _ S1 => .exc x S1
    | _ => .bad := rfl
  have hb2 : b__law_bag (F n) [some (.scr ns), none, none] [] = .ret (.ref 3) (Bag.st ⟨zs, zs.map absI, (zs.map absI).map fun i => decide ((10 : Int) ^ 18 ≤ i), 0, 0, by simp⟩ []) := by
    unfold b__law_bag
    rw [sSeq_ap, sSet_ap, l1, R.thn_ok, RS.seq_nx, sRet_ap, eN_ap]
    simp only [List.set_cons_zero, List.set_cons_succ, evs_cons, evs_nil, eVar_ap, List.getElem?_cons_zero, List.getElem?_cons_succ, R.bind_ok, l2, eC_ap]
    rfl
  rw [hb, hb2]
end Sh

set_option Elab.async false
set_option linter.all false
set_option maxRecDepth 100000
set_option maxHeartbeats 4000000
namespace Sh
open PySem L2
/-! ### the signs of a text -/
def okC (x : Str) : Prop := ∀ c ∈ x.cps.toList, c < 0x110000
theorem okC_of (s : String) : okC (Str.ofString s) := fun c hc => by
  rw [Str.ofString_eq_toList] at hc
  simp at hc
  obtain ⟨d, _, rfl⟩ := hc
  have h : d.val.toNat.isValidChar := d.valid
  have e : d.toNat = d.val.toNat := rfl
  unfold Nat.isValidChar at h
  omega
theorem okC_app {a b : Str} (ha : okC a) (hb : okC b) : okC (a ++ b) := fun c hc => by
  have e : (a ++ b).cps.toList = a.cps.toList ++ b.cps.toList := by show (a.cps ++ b.cps).toList = _; simp
  rw [e] at hc
  rcases List.mem_append.mp hc with h | h
  · exact ha c h
  · exact hb c h
theorem okC_nil : okC Str.empty := fun c hc => by
  have : Str.empty.cps.toList = [] := rfl
  rw [this] at hc; cases hc
theorem okC_join : ∀ {xs : List Str}, (∀ x ∈ xs, okC x) → okC (joinS xs)
  | xs, h => by
    show okC (PySem.Txt.join ", " xs)
    rw [show PySem.Txt.join ", " xs = PySem.Str.join ", " xs from PySem.StrLaws.glued_eq_join ..]
    have key : ∀ xs : List Str, (∀ x ∈ xs, okC x) → okC (PySem.Str.join ", " xs) := by
      intro xs
      induction xs with
      | nil => intro _; exact okC_nil
      | cons x xs ih =>
        intro h
        cases xs with
        | nil => exact h x (by simp)
        | cons y ys => exact okC_app (okC_app (h x (by simp)) (okC_of _)) (ih fun z hz => h z (by simp [hz]))
    exact key xs h
theorem okC_int (i : Int) : okC (numS i) := okC_of _
theorem okC_lit (x : Str) (h : x.cps.toList.all (fun c => decide (c < 0x110000)) = true) : okC x := fun c hc => of_decide_eq_true (List.all_eq_true.mp h c hc)
theorem ch_str {x : Str} (h : chW (.str x) = true) : okC x := fun c hc => by
  have := of_decide_eq_true (List.all_eq_true.mp h c hc)
  omega
theorem ch_row {w : W} {ps : List W} (h : chW w = true) (hr : rowW w = some ps) : ∀ p ∈ ps, chW p = true := by
  cases w with
  | tup ws => cases hr; exact chWs_all.mp h
  | lst ws => cases hr; exact chWs_all.mp h
  | _ => cases hr
theorem ch_rowD {w : W} (h : chW w = true) : ∀ p ∈ (rowW w).getD [], chW p = true := by
  cases hr : rowW w with
  | none => simp
  | some ps => simpa using ch_row h hr
theorem ch_at {its : List W} (h : ∀ p ∈ its, chW p = true) (i : Nat) : chW (its.getD i .non) = true := by
  rw [List.getD_eq_getElem?_getD]
  cases e : its[i]? with
  | none => rfl
  | some w => exact h w (List.mem_of_getElem? e)
theorem okC_strI {w : W} (h : chW w = true) : okC (strI w) := by
  cases w with
  | str x => exact ch_str h
  | _ => exact okC_nil
theorem okC_numI (w : W) : okC (numI w) := by
  cases w with
  | int i => exact okC_int i
  | _ => exact okC_nil
theorem okC_map {f : W → Str} (hf : ∀ x, chW x = true → okC (f x)) {ps : List W} (h : ∀ p ∈ ps, chW p = true) : okC (joinS (ps.map f)) := okC_join fun x hx => by
  obtain ⟨p, hp, rfl⟩ := List.mem_map.mp hx
  exact hf p (h p hp)
theorem okC_txtK {f : W → Str} (hf : ∀ x, chW x = true → okC (f x)) {k : Str} (hk : okC k) {its : List W} (h : ∀ p ∈ its, chW p = true) : okC (txtK f k its) := by
  have i0 := ch_at h 0
  have i1 := ch_at h 1
  have i2 := ch_at h 2
  have hp : ∀ {a s b : Str}, okC a → okC s → okC b → okC (pairS a s b) := fun ha hs hb => okC_app (okC_app (okC_app (okC_app (okC_app (okC_app (okC_of _) ha) (okC_of _)) hs) (okC_of _)) hb) (okC_of _)
  unfold txtK
  repeat' split
  · exact hk
  · exact okC_numI _
  · exact okC_app (okC_app (okC_of _) (okC_strI i0)) (okC_of _)
  · exact okC_strI i0
  · exact okC_app (okC_app (okC_of _) (okC_map hf (ch_rowD i0))) (okC_of _)
  · exact hp (hf _ i1) (okC_strI i0) (hf _ i2)
  · exact hp (hf _ i0) (okC_of _) (hf _ i1)
  · exact hp (hf _ i0) (okC_of _) (hf _ i1)
  · exact hp (hf _ i0) (okC_of _) (hf _ i1)
  · exact hp (okC_strI i0) (okC_of _) (hf _ i1)
  · exact hp (okC_strI i0) (okC_of _) (hf _ i1)
  · refine okC_app (okC_app (okC_app hk (okC_of _)) ?_) (okC_of _)
    unfold brK
    repeat' split
    · exact okC_app (okC_app (okC_numI _) (okC_of _)) (hf _ i1)
    · exact okC_map hf (ch_rowD i0)
    · exact okC_map hf fun p hp => by
        rcases List.mem_cons.mp hp with rfl | hp
        · exact i0
        · exact ch_rowD i1 p hp
    · exact okC_map hf h
theorem okC_txt : ∀ (r : Nat) {w : W}, chW w = true → okC (txtW r w)
  | 0, w, h => okC_nil
  | r + 1, w, h => by
    unfold txtW
    split
    · rename_i k its hr
      have hi := ch_row h hr
      exact okC_txtK (fun x hx => okC_txt r hx) (ch_str (hi _ (by simp))) fun p hp => hi p (by simp [hp])
    · exact okC_nil
theorem okC_py {x : Str} (h : okC x) : PyData.strOk x = true := by
  unfold PyData.strOk
  rw [← Array.all_toList]
  exact List.all_eq_true.mpr fun c hc => by simpa using h c hc
end Sh

set_option Elab.async false
set_option linter.all false
set_option maxRecDepth 100000
set_option maxHeartbeats 4000000
namespace Sh
open PySem L2
variable {n : Nat} {S : Store} {b b' : Bag} {T J : Store}
@[simp] theorem sRaise0_ap {c : Str} {e : En} : sRaise0 c e S = .exc ⟨c, []⟩ e S := rfl
@[simp] theorem sTry_ap {xs : List Str} {sub : Str → Str → Bool} {b : SM} {l : List HM} {e : En} : sTry xs sub b l e S = match b e S with
  | .exc x e1 S1 => if x.cls ∈ xs then handM sub l x e1 S1 else .bad
  | r => r := rfl
@[simp] theorem hand_nil {sub : Str → Str → Bool} {x : Exn} {e : En} : handM sub [] x e S = .exc x e S := rfl
@[simp] theorem hand_cons {sub : Str → Str → Bool} {p : HM} {l : List HM} {x : Exn} {e : En} : handM sub (p :: l) x e S = if sub x.cls p.1 = true then (match p.2.1 with
    | none => noX (p.2.2 x e S)
    | some i => if i < e.length then goneS i (p.2.2 x (e.set i none) S) else .bad) else handM sub l x e S := rfl
@[simp] theorem noX_nx {e : En} : noX (.nx e S) = .nx e S := rfl
@[simp] theorem noX_ret {w : W} : noX (.ret w S) = .ret w S := rfl
@[simp] theorem goneS_nx {i : Nat} {e : En} : goneS i (.nx e S) = .nx (e.set i none) S := rfl
@[simp] theorem sXT_ap {j : Nat} {fs : List XF} {x : Exn} {e : En} : sXT j fs x e S = match evF fs x with
  | some ws => if ws.length ≤ sizeLine then .nx (e.set j (some (.tup ws))) S else .bad
  | none => .bad := rfl
@[simp] theorem sXV_ap {j : Nat} {f : XF} {x : Exn} {e : En} : sXV j f x e S = match f x with
  | some w => .nx (e.set j (some w)) S
  | none => .bad := rfl
@[simp] theorem evF_nil {x : Exn} : evF [] x = some [] := rfl
@[simp] theorem evF_cons {f : XF} {fs : List XF} {x : Exn} : evF (f :: fs) x = match f x, evF fs x with
    | some w, some ws => some (w :: ws)
    | _, _ => none := rfl
@[simp] theorem fC_ap {w : W} {x : Exn} : fC w x = some w := rfl
@[simp] theorem fAnd_ap {f g : XF} {x : Exn} : fAnd f g x = match f x with
  | some (.bl true) => g x
  | some (.bl false) => some (.bl false)
  | _ => none := rfl
@[simp] theorem fIs_ap {t : Str → Option Bool} {x : Exn} : fIs t x = if x.fs.isEmpty = true then (t x.cls).map W.bl else none := rfl
theorem cutX_nil (hS : Clo S) {c : Str} : cutX S ⟨c, []⟩ S = .exc ⟨c, []⟩ S := by
  unfold cutX
  rw [if_pos (by simp [lowWs, hS]), List.take_length]
theorem expression_text_ok (hS : Clo S) {w : W} (hd : dtW w = true) (h : isW 8 false w = true) (hz : szW 8 w ≤ 1000) : F (n + 40) .f_expression_text [w] S = .ok (.str (txtW 8 w)) S := by
  have c1 : F (n + 39) .f_is_expression [w] S = .ok (.bl (isW 8 false w)) S := is_expression_eq (n := n + 17) hS hd
  have c2 : F (n + 39) .f_written [w] S = .ok (.str (txtW 8 w)) S := written_eq hS 8 (n + 39) w false (by omega) hd h hz
  rw [h] at c1
  rw [F_expression_text]
  simp [b_expression_text, c1, c2, hS]
theorem expression_text_no (hS : Clo S) {w : W} (hd : dtW w = true) (h : isW 8 false w = false) : F (n + 40) .f_expression_text [w] S = .exc ⟨"NoExpression", []⟩ S := by
  have c1 : F (n + 39) .f_is_expression [w] S = .ok (.bl (isW 8 false w)) S := is_expression_eq (n := n + 17) hS hd
  rw [h] at c1
  rw [F_expression_text]
  simp [b_expression_text, c1]
  exact cutX_nil hS
end Sh

set_option Elab.async false
set_option linter.all false
set_option maxRecDepth 100000
set_option maxHeartbeats 4000000
namespace Sh
open PySem L2
variable {n : Nat} {S : Store} {b b' : Bag} {T J : Store}
theorem cut_tupS (hS : Clo S) {ws : List W} (h : lowWs S.length ws = true) : cutR S (.tup ws) S = .ok (.tup ws) S := by
  have := cut_low (S := S) (J := []) (w := .tup ws) hS (by simpa [lowW] using h)
  rw [List.append_nil] at this
  exact this
def gaveW (x : Str) : W := .tup [.str ⟨#[103, 97, 118, 101]⟩, .str x]
def raisedW : W := .tup [.str ⟨#[114, 97, 105, 115, 101, 100]⟩, .bl true]
theorem told_ok (hS : Clo S) {w : W} (hd : dtW w = true) (h : isW 8 false w = true) (hz : szW 8 w ≤ 1000) : F (n + 41) .f__law_told [w] S = .ok (gaveW (txtW 8 w)) S := by
  have c1 : F (n + 40) .f_expression_text [w] S = .ok (.str (txtW 8 w)) S := expression_text_ok hS hd h hz
  rw [F__law_told]
  simp [b__law_told, c1]
  exact cut_tupS hS rfl
theorem told_no (hS : Clo S) {w : W} (hd : dtW w = true) (h : isW 8 false w = false) : F (n + 41) .f__law_told [w] S = .ok raisedW S := by
  have c1 : F (n + 40) .f_expression_text [w] S = .exc ⟨"NoExpression", []⟩ S := expression_text_no hS hd h
  rw [F__law_told]
  simp [b__law_told, c1]
  exact cut_tupS hS rfl
theorem eq_gave {x : Str} (h : okC x) : eqDW (gaveW x) (gaveW x) S = some (.bl true, S) := by
  have h1 := okC_py h
  simp [eqDW, gaveW, pyW, pyWs, SeqAt.shaped, PyData.canLay0, PyData.canLayAll0, PyData.depth, PyData.depthAll, PyData.eqv, PyData.eqvAll, h1]
  exact okC_py (okC_lit _ (by decide))
theorem eq_raised : eqDW raisedW raisedW S = some (.bl true, S) := by
  have h1 := okC_py (okC_lit ⟨#[114, 97, 105, 115, 101, 100]⟩ (by decide))
  simp [eqDW, raisedW, pyW, pyWs, SeqAt.shaped, PyData.canLay0, PyData.canLayAll0, PyData.depth, PyData.depthAll, PyData.eqv, PyData.eqvAll, h1]
theorem eqD_str {x y : Str} (h : okC x) (h2 : okC y) : eqDW (.str x) (.str y) S = some (.bl (decide (x = y)), S) := by
  have h1 := okC_py h
  have h3 := okC_py h2
  simp [eqDW, pyW, SeqAt.shaped, PyData.canLay0, PyData.depth, PyData.eqv, h1, h3]
  by_cases e : x = y <;> simp [e]
theorem neD_str {x y : Str} (h : okC x) (h2 : okC y) : neDW (.str x) (.str y) S = some (.bl (!decide (x = y)), S) := by
  have h1 := okC_py h
  have h3 := okC_py h2
  simp [neDW, pyW, SeqAt.shaped, PyData.canLay0, PyData.depth, PyData.eqv, h1, h3]
  by_cases e : x = y <;> simp [e]
end Sh

set_option Elab.async false
set_option linter.all false
set_option maxRecDepth 100000
set_option maxHeartbeats 4000000
namespace Sh
open PySem L2
variable {n : Nat} {S : Store} {b b' : Bag} {T J : Store}
theorem cut_law {b : Bool} {A : Store} : cutR [] (.bl b) A = .ok (.bl b) [] := cut_low (S := []) (J := A) rfl rfl
theorem isV_up {r : Nat} : ∀ (d : Nat) {w : W}, isV r w = true → szW (r + d) w = szW r w ∧ isV (r + d) w = true
  | 0, w, h => ⟨rfl, h⟩
  | d + 1, w, h => by
    obtain ⟨h1, h2⟩ := isV_up d h
    obtain ⟨h3, h4⟩ := isV_mono (r + d) w h2
    exact ⟨by rw [← h1, ← h4]; rfl, h3⟩
/-- the tree that is made at first -/
theorem tree_eq (b : Bag) {r d : Nat} (hr : r < 14) (h1 : 1 ≤ d) (h8 : d ≤ 8) : ∃ (w : W) (b' : Bag) (y : Int), F 60 .f__law_expression [.ref 3, .ref 4, .int d, .int 0] (b.st [.lst [.int ((r : Int) + 1)]]) = .ok w (b'.st [.lst [.int y]]) ∧ isW 8 false w = true ∧ szW 8 w ≤ 100 := by
  obtain ⟨w, ⟨b', y⟩, e, g⟩ := expression_eq d 60 [.lst [.int ((r : Int) + 1)]] 0 false (b, (r : Int) + 1) (okT_push okT_nil rfl) (by simp) (by omega)
  have hmx : max d 1 = d := by omega
  rw [hmx] at g
  have u1 := isW_mono g.v h8
  obtain ⟨u2, _⟩ := isV_up (8 - d) (isW_isV g.v)
  rw [show d + (8 - d) = 8 by omega] at u2
  have := g.sz
  have := g.le
  refine ⟨w, b', y, e, u1, ?_⟩
  rw [u2]
  unfold dwR at *
  simp only at *
  omega
theorem law_true0 (ns : List Int) (hl : ns.length ≤ 63) : ∃ S', runDef 1 9 (b_law (F 60)) [.scr ns] [] = .ok (.bl true) S' := by
  obtain ⟨b0, q0⟩ := bag_eq (n := 59) hl
  have q0 : F 60 .f__law_bag [.scr ns] [] = .ok (.ref 3) (b0.st []) := q0
  have hdr : ∀ (b : Bag) (T : Store) (k : Nat), OkT T → 0 < k → k < 1000000 → ∃ (r : Nat) (b' : Bag), F 60 .f__law_draw [.ref 3, .int k] (b.st T) = .ok (.int r) (b'.st T) ∧ r < k := fun b T k hT h1 h2 => draw_eq (n := 58) (b := b) hT h1 h2
  obtain ⟨s, b1, q1, hs⟩ := hdr b0 [] 60 okT_nil (by decide) (by decide)
  obtain ⟨r, b2, q2, hr⟩ := hdr b1 [] 14 okT_nil (by decide) (by decide)
  obtain ⟨d, b3, q3, hd⟩ := hdr b2 [.lst [.int (1 + (r : Int))]] 8 (okT_push okT_nil rfl) (by decide) (by decide)
  obtain ⟨w, b4, y, q4, hv, hz⟩ := tree_eq b3 (r := r) (d := d + 1) hr (by omega) (by omega)
  have q1 : F 60 .f__law_draw [.ref 3, .int 60] (b0.st []) = .ok (.int s) (b1.st []) := q1
  have q2 : F 60 .f__law_draw [.ref 3, .int 14] (b1.st []) = .ok (.int r) (b2.st []) := q2
  have q3 : F 60 .f__law_draw [.ref 3, .int 8] (b2.st [.lst [.int (1 + (r : Int))]]) = .ok (.int d) (b3.st [.lst [.int (1 + (r : Int))]]) := q3
  have q4 : F 60 .f__law_expression [.ref 3, .ref 4, .int (1 + (d : Int)), .int 0] (b3.st [.lst [.int (1 + (r : Int))]]) = .ok w (b4.st [.lst [.int y]]) := by
    have := q4
    push_cast at this
    rw [Int.add_comm (d : Int) 1, Int.add_comm (r : Int) 1] at this
    exact this
  have hT : OkT [.lst [.int y]] := okT_push okT_nil rfl
  have hV := isW_isV hv
  have hok := isV_ok 8 w hV
  have hwt := isV_wt 8 w hV
  have hdp := isV_dp 8 w hV
  have hcn := isV_cn 8 w hV
  generalize hTy : ([.lst [.int y]] : Store) = T at hT q4
  obtain ⟨x, hx⟩ := repr_ok hok (by omega) (by omega)
  have t1 : ∀ S, Clo S → F 60 .f_expression_text [w] S = .ok (.str (txtW 8 w)) S := fun S hS => expression_text_ok (n := 20) hS hok.dt hv (by omega)
  have t2 : ∀ S, Clo S → F 60 .f__law_text [w] S = .ok (.str (txtW 8 w)) S := fun S hS => law_text_eq hS 8 60 w false (by omega) hok.dt hv (by omega)
  have t3 : ∀ S, Clo S → F 60 .f__law_told [w] S = .ok (gaveW (txtW 8 w)) S := fun S hS => told_ok (n := 19) hS hok.dt hv (by omega)
  have oc := okC_txt 8 hok.ch
  obtain ⟨rs, w1, w2, w3⟩ := walk_eq 8 60 (b4.st T) w [] (clo_st hT) (by decide) hok.dt hV (by omega) (by simp)
  have hrl : 0 < rs.length := by rw [w2]; simp [szW]; omega
  obtain ⟨x2, hx2⟩ : ∃ x, rs[s % rs.length]? = some x := ⟨_, List.getElem?_eq_getElem (Nat.mod_lt _ hrl)⟩
  obtain ⟨vs, w', rfl, _, _⟩ := w3 x2 (List.mem_of_getElem? hx2)
  obtain ⟨pc, b5, o1, o2⟩ := odd_eq (n := 56) (b := b4) hT
  have o1 : F 60 .f__law_odd [.ref 3] (b4.st T) = .ok pc (b5.st T) := o1
  obtain ⟨u, g1, g2⟩ := with_eq o2.ok 8 60 (b5.st T) w vs (clo_st hT) (by decide) hok hV
  have := g2.cn
  have := o2.cn
  have hC4 := clo_st (b := b4) hT
  have hC5 := clo_st (b := b5) hT
  have hgu := law_is_eq hC5 8 60 u false (by decide) g2.ok.dt
  have hgu : F 60 .f__law_is [u, .int 8, .bl false] (b5.st T) = .ok (.bl (isW 8 false u)) (b5.st T) := hgu
  have hrl' : (0 : Int) < rs.length := by omega
  have hx3 : atI rs ((s : Int) % (rs.length : Int)) = some (.tup [.tup (vs.map W.int), w']) := by
    rw [show (s : Int) % (rs.length : Int) = ((s % rs.length : Nat) : Int) by simp, atI_n]
    exact hx2
  have t1a := t1 _ hC4
  have t2a := t2 _ hC4
  have t3a := t3 _ hC5
  have n1 : ∀ S, neDW (.str (txtW 8 w)) (.str (txtW 8 w)) S = some (.bl false, S) := fun S => by rw [neD_str oc oc]; simp
  have tt : ∀ S, eqDW (gaveW (txtW 8 w)) (.tup [.str ⟨#[103, 97, 118, 101]⟩, .str (txtW 8 w)]) S = some (.bl true, S) := fun S => eq_gave oc
  simp at w1
  cases hb : isW 8 false u with
  | true =>
    have hsu : szW 8 u ≤ 1000 := by
      have := (isV_cn 8 u (isW_isV hb)).1
      omega
    have t4 := told_ok (n := 19) hC5 g2.ok.dt hb hsu
    have t4 : F 60 .f__law_told [u] (b5.st T) = .ok (gaveW (txtW 8 u)) (b5.st T) := t4
    have t5 := law_text_eq hC5 8 60 u false (by omega) g2.ok.dt hb hsu
    rw [hb] at hgu
    have ou := okC_txt 8 g2.ok.ch
    have tu : ∀ S, eqDW (gaveW (txtW 8 u)) (.tup [.str ⟨#[103, 97, 118, 101]⟩, .str (txtW 8 u)]) S = some (.bl true, S) := fun S => eq_gave ou
    refine ⟨[], ?_⟩
    simp [b_law, q0, q1, q2, q3, q4, hTy, hx, t1a, t2a, t3a, n1, w1, hrl, hx3, o1, g1, hgu, t4, t5, tt, tu, cut_law]
  | false =>
    have t4 := told_no (n := 19) hC5 g2.ok.dt hb
    have t4 : F 60 .f__law_told [u] (b5.st T) = .ok raisedW (b5.st T) := t4
    rw [hb] at hgu
    have tu : ∀ S, eqDW raisedW (.tup [.str ⟨#[114, 97, 105, 115, 101, 100]⟩, .bl true]) S = some (.bl true, S) := fun S => eq_raised
    refine ⟨[], ?_⟩
    simp [b_law, q0, q1, q2, q3, q4, hTy, hx, t1a, t2a, t3a, n1, w1, hrl, hx3, o1, g1, hgu, t4, tt, tu, cut_law]
end Sh

set_option Elab.async false
set_option linter.all false
set_option maxRecDepth 100000
set_option maxHeartbeats 0
namespace Sh
theorem law_true (ns : List Int) (hl : ns.length ≤ 63) : ∃ S', runDef 1 N_law.length (b_law (F 60)) [.scr ns] [] = .ok (.bl true) S' := law_true0 ns hl
end Sh
open PySem PySem.W PySem.Calls PyProof.Rows in
theorem PySem.Challenge.cw_triedagain_k05_expressions_written_holds : PySem.Challenge.rw_triedagain_k05_expressions_written.Holds := by
  w_on; o_law
  refine HandSHeadRun.head_any (r := OpenLaw.row PySem.Challenge.rw_triedagain_k05_expressions_written) (q := view (OpenLaw.row PySem.Challenge.rw_triedagain_k05_expressions_written).prog [54]) (H := Sh.hk) (ob := Sh.ob) (M := 30000) (loose := Sh.names) (d := HandSHeadRun.topDef (OpenLaw.row PySem.Challenge.rw_triedagain_k05_expressions_written).prog 54) (kwd := []) Sh.ob_eq
    (by kernel_rfl) (fun s => by kernel_rfl) Sh.run (by kernel_rfl) (by kernel_rfl) (by kernel_rfl) (by rfl) (by first | assumption | decide +kernel) (by decide +kernel) ⟨rfl, rfl, rfl, rfl, rfl, by decide +kernel⟩ ?hw ?hc
  case hw => w_witness2
  case hc =>
    refine Sh.law_endC (l := PySem.Challenge.rw_triedagain_k05_expressions_written) (n := 63) (k := 2 * 60 + 1) (x := "law") (st := Sh.s_law) (N := Sh.N_law) (b := Sh.b_law (Sh.F 60)) rfl (by decide) (by kernel_rfl) ⟨rfl, by decide, by decide⟩ (by kernel_rfl) Sh.bi_law Sh.sc_law (fun w mg h Y G => ?_) (fun ns hl => Sh.law_true ns hl)
    obtain ⟨⟨K, KX, c⟩, hs⟩ := Y
    have U := Sh.facts KX G c
    exact ⟨hs, K, KX, U.u_law, fun base hb => Sh.d_law (Sh.all_ok U 60) hb ⟨rfl, by decide, by decide⟩⟩

