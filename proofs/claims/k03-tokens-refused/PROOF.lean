import PyProof.Rows.All
import Wide.All
import OpenK.AllK
import Wide.FinOn
import HandS.ForMost
import HandS.Flow
import HandS.IsInst
import HandS.TupAny
import HandS.TupMul
import HandS.Walk
import HandS.Defaults
import HandS.Style
import HandS.WordsExc
import HandS.ExcCtx
import HandS.ExcIs
import HandS.ExcField
import HandS.ExcInitHot
import HandS.SetFor
import HandS.Codes
import KE.GoesEnum
import HandS.More
import HandS.TryOnly
import KE.KRevSl
import PyProof.CollectIter
import PyProof.WalksMore
import HandS.ExcValue
import HandS.Zip
import KE.GoesZip
import KE.GoesMore
import HandS.CallRecv
import HandS.Head0
import HandS.Head1
import HandS.Head2
import HandS.HeadEnd
import HandS.HeadHook1
import HandS.HeadHook2
import HandS.HeadHook3
import HandS.HeadHook4
import HandS.MakeKwOnly
import PySem.Challenge.RW_papertongue_k03_tokens_refused
import KE.KStateDown
set_option Elab.async false
section
set_option linter.all false
set_option maxRecDepth 100000
set_option maxHeartbeats 4000000
namespace PT
open PySem PySem.Spec PyProof.Rows L2
def tyNames : List String := ["NoneType", "bool", "int", "str", "tuple", "list", "dict"]
/-- built-in names that are types -/
def bltT : List String := ["str", "int", "bool", "tuple", "list", "dict"]
def bltF : List String := ["len", "isinstance", "all", "any", "max", "min"]
def bltN : List String := bltT ++ bltF ++ ["range", "enumerate", "zip"]
def clsB (K : PySem.W.Frag) (x : String) : Bool :=
  (He.Fa.cls (Str.ofString x)).ok K && (decide (PySem.W.findIn K (.ref (He.ga K (Str.ofString x))) "__class__" = some (some (.builtin "object.__class__"))) && (decide (PySem.W.specialIn K (.builtin "object.__class__") "__get__" = some (some (.builtin "getset_descriptor.__get__"))) &&
    (decide (PySem.W.takesIn K (.builtin "object.__class__") = some true) && (decide (PySem.W.mroIn K (He.ga K (Str.ofString x)) (.type "object") = some true) && tyNames.all fun n => decide (PySem.W.kitOne K (.ref (He.ga K (Str.ofString x))) (.type n) = some false)))))
def isiB (K : PySem.W.Frag) (cs : List String) (x : String) : Bool :=
  (tyNames.all fun n => decide (PySem.W.kitOne K (.type n) (.ref (He.ga K (Str.ofString x))) = some false)) && cs.all fun t => decide (PySem.W.kitOne K (.ref (He.ga K (Str.ofString t))) (.ref (He.ga K (Str.ofString x))) = some (t == x))
/-- an empty tuple among the defaults -/
def empB (K : PySem.W.Frag) (a : Addr) : Bool := match K.lookup a with
  | some ⟨.type c, _, .seq its _, _⟩ => decide (c = "tuple") && decide (its.toList = [])
  | _ => false
def oexB (K : PySem.W.Frag) (C : Addr) : Bool :=
  (match K.lookup C with
  | some ⟨.type "type", _, .cls cd, sl⟩ => (match cd.mro, sl.toList with
    | .ref C' :: bm, [_, _, _, _, some (.builtin n), _] => C' == C && n == "ValueError.__new__" && !cd.hasDel && cd.hasDict && PySem.HandSPX.refsVE bm
    | _, _ => false)
  | _ => false) && (decide (PySem.W.findIn K (.ref C) "__setattr__" = some (some (.builtin "object.__setattr__"))) && (decide (PySem.W.subIn K (.ref C) (.type "BaseException") = some true) && (decide (PySem.W.typeIn K (.ref C) = some (.type "type")) && PySem.W.keepIn K (.ref C))))
def xcB (K : PySem.W.Frag) (C : Addr) : Bool :=
  decide (PySem.W.findIn K (.ref C) "__getattribute__" = some (some (.builtin "BaseException.__getattribute__"))) && (decide (PySem.W.findIn K (.ref C) "__getattr__" = some none) && (decide (PySem.W.subIn K (.ref C) (.type "BaseException") = some true) && (PySem.W.hasDictIn K C &&
    (decide (PySem.W.findIn K (.ref C) "__class__" = some (some (.builtin "object.__class__"))) && (decide (PySem.W.specialIn K (.builtin "object.__class__") "__get__" = some (some (.builtin "getset_descriptor.__get__"))) &&
      (decide (PySem.W.takesIn K (.builtin "object.__class__") = some true) && decide (PySem.W.mroIn K C (.type "object") = some true)))))))
def xbB (K : PySem.W.Frag) (C : Addr) : Bool :=
  decide (PySem.W.specialIn K (.ref C) "__getattribute__" = some (some (.builtin "type.__getattribute__"))) && (PySem.W.readsIn K C (.type "type") && (match PySem.W.findCls K (.ref C) (.type "type") "__init__" with | some (.val (.builtin n)) => n == "ValueError.__init__" | _ => false))
/-- the table of classes: b: the names of the built-in ones -/
def xcU (K : PySem.W.Frag) (bs : List String) (x : String) : Value := if bs.contains x then .type x else .ref (He.ga K (Str.ofString x))
def subT (l : List (String × String × Bool)) (t x : String) : Option Bool := (l.find? fun e => e.1 == t && e.2.1 == x).map (·.2.2)
def subB (K : PySem.W.Frag) (bs : List String) (l : List (String × String × Bool)) : Bool :=
  l.all fun e => bs.contains e.1 || (decide (PySem.W.kitOne K (.ref (He.ga K (Str.ofString e.1))) (xcU K bs e.2.1) = some e.2.2) && decide (PySem.W.exmOne K (.ref (He.ga K (Str.ofString e.1))) (xcU K bs e.2.1) = some e.2.2))
/-- a field that the class itself has not -/
def noB (K : PySem.W.Frag) (C : Addr) (f : String) : Bool := decide (PySem.W.findIn K (.ref C) (Str.ofString f) = some none)
/-- its __init__ -/
def iniB (K : PySem.W.Frag) (C fI : Addr) : Bool := decide (PySem.W.findIn K (.ref C) "__init__" = some (some (.ref fI))) && decide (PySem.W.typeIn K (.ref fI) = some (.type "function"))
end PT
end
section
set_option linter.all false
set_option maxRecDepth 100000
set_option maxHeartbeats 4000000
/-! PtHd: a head by several kernel runs, each looking at a part of what is told. -/
namespace PT
open PySem PySem.W PySem.Calls PyProof.Rows

/-- the objects below N -/
def frR (N : Nat) (g : Addr → Option Obj) : PySem.W.Frag := He.frT g (List.range N)
def hookK (N : Nat) {β : Type} (obs : PySem.W.Frag → β) (val : World → β) : Hook where
  α := β
  obs := fun s => obs (frR N s.heap.get?)
  val := val
  says := fun w h => ∃ K : PySem.W.Frag, K.In h ∧ obs K = val w
  of := fun _ _ e => ⟨_, He.frT_in, e⟩
  keeps := fun _ _ _ ⟨K, hK, c⟩ k => ⟨K, PySem.W.Frag.In.keeps hK k, c⟩
theorem hookK_eq {N : Nat} {β : Type} {obs : PySem.W.Frag → β} {val : World → β} (s : SharedT) : obs (frR N (HandSHeadRun.getT s)) = (hookK N obs val).obs s.abs := by
  have e : HandSHeadRun.getT s = s.abs.heap.get? := funext (HandSHeadRun.getT_eq s)
  rw [e]; rfl
theorem map_two {α β γ : Type} {o : Option α} {f : α → β} {g : α → γ} {a : β} {b : γ} (h1 : o.map f = some a) (h2 : o.map g = some b) : o.map (fun s => (f s, g s)) = some (a, b) := by
  cases o with
  | none => cases h1
  | some x => cases h1; cases h2; rfl
theorem map_three {α β γ δ : Type} {o : Option α} {f : α → β} {g : α → γ} {h : α → δ} {a : β} {b : γ} {d : δ} (h1 : o.map (fun s => (f s, g s)) = some (a, b)) (h2 : o.map h = some d) : o.map (fun s => (f s, g s, h s)) = some (a, b, d) := by
  cases o with
  | none => cases h1
  | some x => cases h1; cases h2; rfl
/-- the top's end -/
noncomputable abbrev topE (r : OpenRow) (M : Nat) (w : World) (os : OsState) : Option SharedT := HandSHeadRun.endF (HandSHeadRun.stepQ (HandSHeadRun.denQ HandSHeadRun.tabQ) r.prog w) M r.prog w os
/-- the run's own looks -/
def RunA (r : OpenRow) (q : Program) (M : Nat) (loose : List PySem.Str) (w : World) : Prop :=
  ∀ os : OsState, (topE r M w os).map (fun s => (HandSHeadRun.looksF r.prog (boot_heap w.params) s.abs, HandSHeadRun.seenQ q loose (importedModules r.prog.main.body) (fun s => xlAt q [] s && recOk r.toRowW.records s) s.abs)) = some (true, openGood q loose)
/-- .. a part -/
def RunP (r : OpenRow) (M N : Nat) {β : Type} (obs : PySem.W.Frag → β) (val : World → β) (w : World) : Prop := ∀ os : OsState, (topE r M w os).map (fun s => obs (frR N (HandSHeadRun.getT s))) = some (val w)
theorem RunP.and {r : OpenRow} {M N : Nat} {β γ : Type} {o1 : PySem.W.Frag → β} {v1 : World → β} {o2 : PySem.W.Frag → γ} {v2 : World → γ} {w : World} (h1 : RunP r M N o1 v1 w) (h2 : RunP r M N o2 v2 w) : RunP r M N (fun K => (o1 K, o2 K)) (fun w => (v1 w, v2 w)) w :=
  fun os => map_two (h1 os) (h2 os)
theorem runK {r : OpenRow} {q : Program} {M N : Nat} {loose : List PySem.Str} {β : Type} {obs : PySem.W.Frag → β} {val : World → β} {w : World} (h1 : RunA r q M loose w) (h2 : RunP r M N obs val w) :
    HandSHeadRun.RunEq r q (hookK N obs val) (fun s => obs (frR N (HandSHeadRun.getT s))) M loose w := fun os => map_three (h1 os) (h2 os)
theorem saysD_app {fa fa' : List He.Fa} {fn fn' : List He.DefD} {K : PySem.W.Frag} (h : He.obsD fa fn K = He.valD fn) (h' : He.obsD fa' fn' K = He.valD fn') : He.SaysD (fa ++ fa') (fn ++ fn') K := by
  have a1 := congrArg (fun z : He.AlD => z.1) h
  have a2 := congrArg (fun z : He.AlD => z.2) h
  have b1 := congrArg (fun z : He.AlD => z.1) h'
  have b2 := congrArg (fun z : He.AlD => z.2) h'
  simp only [He.obsD, He.valD, Bool.and_eq_true] at a1 a2 b1 b2
  show He.obsD _ _ K = He.valD _
  simp only [He.obsD, He.valD, List.all_append, List.map_append, a2, b2, a1.1, a1.2, b1.1, b1.2, Bool.and_self]
end PT

end
section
set_option linter.all false
set_option maxRecDepth 100000
set_option maxHeartbeats 4000000
namespace PT
namespace k03
open PySem PySem.Spec PyProof.Rows L2
/-- the text's statement i -/
def topS (i : Nat) : Stmt := PySem.Challenge.pw_papertongue_k03_tokens_refused.main.body.getD i (.Pass ⟨0, 0, 0, 0⟩)
/-- a class's statement -/
def inC (s : Stmt) (k : Nat) : Stmt := match s with | .ClassDef _ _ _ b .. => b.getD k (.Pass ⟨0, 0, 0, 0⟩) | _ => s
abbrev s__law_is_word : Stmt := topS 87
abbrev s__law_is_name : Stmt := topS 86
abbrev s__law_is_token : Stmt := topS 88
abbrev s__law_amiss : Stmt := topS 89
abbrev s_is_name : Stmt := topS 37
abbrev s_is_word : Stmt := topS 38
abbrev s_is_token : Stmt := topS 39
abbrev s_first_wrong : Stmt := topS 40
abbrev s_check_tokens : Stmt := topS 44
abbrev s_show_tokens : Stmt := topS 45
abbrev s_words_in : Stmt := topS 46
abbrev s_read_tokens : Stmt := topS 47
abbrev s__law_sort : Stmt := topS 85
abbrev s__law_told : Stmt := topS 90
abbrev s__law_read_right : Stmt := topS 92
abbrev s_Shape___init__ : Stmt := inC (topS 72) 0
abbrev s_Shape_is_open : Stmt := inC (topS 72) 5
abbrev s_first_amiss : Stmt := topS 75
abbrev s_Text___init__ : Stmt := inC (topS 76) 0
abbrev s__law_kinds_right : Stmt := topS 95
abbrev s__law_cell : Stmt := topS 78
abbrev s__law_purse : Stmt := topS 79
abbrev s__law_pick : Stmt := topS 80
abbrev s__law_names : Stmt := topS 82
abbrev s__law_one_word : Stmt := topS 81
abbrev s__law_tokens : Stmt := topS 83
abbrev s__law_with_note : Stmt := topS 84
abbrev s__law_shown_right : Stmt := topS 91
abbrev s__law_odd : Stmt := topS 93
abbrev s__law_bent : Stmt := topS 94
abbrev s_law : Stmt := topS 96
def subC : List (String × String × Bool) := [("NoTokens", "NoTokens", true), ("NoTokens", "NoRows", false), ("NoTokens", "NoText", false), ("NoTokens", "NoTexts", false), ("NoTokens", "TongueError", true), ("NoTokens", "StandError", false), ("NoTokens", "RoomError", false), ("NoTokens", "NoKind", false), ("NoTokens", "NoSize", false), ("NoTokens", "NoChanges", false), ("NoTokens", "NoLine", false), ("NoTokens", "NoInclude", false), ("NoTokens", "NoStyle", false), ("NoTokens", "NoMark", false), ("NoTokens", "NoNumber", false), ("NoTokens", "NoPlace", false), ("NoTokens", "NoDocument", false), ("NoTokens", "NoPrinting", false), ("NoTokens", "Ring", false), ("NoTokens", "Twice", false), ("NoTokens", "TooMany", false), ("NoTokens", "TooTall", false), ("NoTokens", "Clash", false), ("NoTokens", "ValueError", true), ("NoTokens", "LookupError", false), ("NoTokens", "ArithmeticError", false), ("NoRows", "NoRows", true), ("NoText", "NoText", true), ("NoTexts", "NoTexts", true), ("TongueError", "TongueError", true), ("StandError", "StandError", true), ("RoomError", "RoomError", true), ("NoKind", "NoKind", true), ("NoSize", "NoSize", true), ("NoChanges", "NoChanges", true), ("NoLine", "NoLine", true), ("NoInclude", "NoInclude", true), ("NoStyle", "NoStyle", true), ("NoMark", "NoMark", true), ("NoNumber", "NoNumber", true), ("NoPlace", "NoPlace", true), ("NoDocument", "NoDocument", true), ("NoPrinting", "NoPrinting", true), ("Ring", "Ring", true), ("Twice", "Twice", true), ("TooMany", "TooMany", true), ("TooTall", "TooTall", true), ("Clash", "Clash", true), ("ValueError", "ValueError", true), ("LookupError", "LookupError", true), ("ArithmeticError", "ArithmeticError", true)]
def bErr : List String := ["ValueError", "LookupError", "ArithmeticError"]
abbrev s_NoTokens___init__ : Stmt := inC (topS 5) 0
def d__law_is_word : He.DefD := ⟨("_law_is_word", none), "_law_is_word", "_law_is_word", defArgs s__law_is_word, defBody s__law_is_word, defScope s__law_is_word, [], []⟩
def d__law_is_name : He.DefD := ⟨("_law_is_name", none), "_law_is_name", "_law_is_name", defArgs s__law_is_name, defBody s__law_is_name, defScope s__law_is_name, [], []⟩
def d__law_is_token : He.DefD := ⟨("_law_is_token", none), "_law_is_token", "_law_is_token", defArgs s__law_is_token, defBody s__law_is_token, defScope s__law_is_token, [], []⟩
def d__law_amiss : He.DefD := ⟨("_law_amiss", none), "_law_amiss", "_law_amiss", defArgs s__law_amiss, defBody s__law_amiss, defScope s__law_amiss, [], []⟩
def d_is_name : He.DefD := ⟨("is_name", none), "is_name", "is_name", defArgs s_is_name, defBody s_is_name, defScope s_is_name, [], []⟩
def d_is_word : He.DefD := ⟨("is_word", none), "is_word", "is_word", defArgs s_is_word, defBody s_is_word, defScope s_is_word, [], []⟩
def d_is_token : He.DefD := ⟨("is_token", none), "is_token", "is_token", defArgs s_is_token, defBody s_is_token, defScope s_is_token, [], []⟩
def d_first_wrong : He.DefD := ⟨("first_wrong", none), "first_wrong", "first_wrong", defArgs s_first_wrong, defBody s_first_wrong, defScope s_first_wrong, [], []⟩
def d_check_tokens : He.DefD := ⟨("check_tokens", none), "check_tokens", "check_tokens", defArgs s_check_tokens, defBody s_check_tokens, defScope s_check_tokens, [], []⟩
def d_show_tokens : He.DefD := ⟨("show_tokens", none), "show_tokens", "show_tokens", defArgs s_show_tokens, defBody s_show_tokens, defScope s_show_tokens, [], []⟩
def d_words_in : He.DefD := ⟨("words_in", none), "words_in", "words_in", defArgs s_words_in, defBody s_words_in, defScope s_words_in, [], []⟩
def d_read_tokens : He.DefD := ⟨("read_tokens", none), "read_tokens", "read_tokens", defArgs s_read_tokens, defBody s_read_tokens, defScope s_read_tokens, [], []⟩
def d__law_sort : He.DefD := ⟨("_law_sort", none), "_law_sort", "_law_sort", defArgs s__law_sort, defBody s__law_sort, defScope s__law_sort, [], []⟩
def d__law_told : He.DefD := ⟨("_law_told", none), "_law_told", "_law_told", defArgs s__law_told, defBody s__law_told, defScope s__law_told, [], []⟩
def d__law_read_right : He.DefD := ⟨("_law_read_right", none), "_law_read_right", "_law_read_right", defArgs s__law_read_right, defBody s__law_read_right, defScope s__law_read_right, [], []⟩
def d_Shape___init__ : He.DefD := ⟨("Shape", some "__init__"), "__init__", "Shape.__init__", defArgs s_Shape___init__, defBody s_Shape___init__, defScope s_Shape___init__, [], []⟩
def d_Shape_is_open : He.DefD := ⟨("Shape", some "is_open"), "is_open", "Shape.is_open", defArgs s_Shape_is_open, defBody s_Shape_is_open, defScope s_Shape_is_open, [], []⟩
def d_first_amiss : He.DefD := ⟨("first_amiss", none), "first_amiss", "first_amiss", defArgs s_first_amiss, defBody s_first_amiss, defScope s_first_amiss, [], []⟩
def d_Text___init__ : He.DefD := ⟨("Text", some "__init__"), "__init__", "Text.__init__", defArgs s_Text___init__, defBody s_Text___init__, defScope s_Text___init__, [.adr (He.dflAt ("Text", some "__init__") 0)], []⟩
def d__law_kinds_right : He.DefD := ⟨("_law_kinds_right", none), "_law_kinds_right", "_law_kinds_right", defArgs s__law_kinds_right, defBody s__law_kinds_right, defScope s__law_kinds_right, [], []⟩
def d__law_cell : He.DefD := ⟨("_law_cell", none), "_law_cell", "_law_cell", defArgs s__law_cell, defBody s__law_cell, defScope s__law_cell, [], []⟩
def d__law_purse : He.DefD := ⟨("_law_purse", none), "_law_purse", "_law_purse", defArgs s__law_purse, defBody s__law_purse, defScope s__law_purse, [], []⟩
def d__law_pick : He.DefD := ⟨("_law_pick", none), "_law_pick", "_law_pick", defArgs s__law_pick, defBody s__law_pick, defScope s__law_pick, [], []⟩
def d__law_names : He.DefD := ⟨("_law_names", none), "_law_names", "_law_names", defArgs s__law_names, defBody s__law_names, defScope s__law_names, [], []⟩
def d__law_one_word : He.DefD := ⟨("_law_one_word", none), "_law_one_word", "_law_one_word", defArgs s__law_one_word, defBody s__law_one_word, defScope s__law_one_word, [], []⟩
def d__law_tokens : He.DefD := ⟨("_law_tokens", none), "_law_tokens", "_law_tokens", defArgs s__law_tokens, defBody s__law_tokens, defScope s__law_tokens, [], []⟩
def d__law_with_note : He.DefD := ⟨("_law_with_note", none), "_law_with_note", "_law_with_note", defArgs s__law_with_note, defBody s__law_with_note, defScope s__law_with_note, [], []⟩
def d__law_shown_right : He.DefD := ⟨("_law_shown_right", none), "_law_shown_right", "_law_shown_right", defArgs s__law_shown_right, defBody s__law_shown_right, defScope s__law_shown_right, [], []⟩
def d__law_odd : He.DefD := ⟨("_law_odd", none), "_law_odd", "_law_odd", defArgs s__law_odd, defBody s__law_odd, defScope s__law_odd, [], []⟩
def d__law_bent : He.DefD := ⟨("_law_bent", none), "_law_bent", "_law_bent", defArgs s__law_bent, defBody s__law_bent, defScope s__law_bent, [], []⟩
def d_law : He.DefD := ⟨("law", none), "law", "law", defArgs s_law, defBody s_law, defScope s_law, [], []⟩
def d_NoTokens___init__ : He.DefD := ⟨("NoTokens", some "__init__"), "__init__", "NoTokens.__init__", defArgs s_NoTokens___init__, defBody s_NoTokens___init__, defScope s_NoTokens___init__, [], []⟩
def fnL : List He.DefD := [d__law_is_word, d__law_is_name, d__law_is_token, d__law_amiss, d_is_name, d_is_word, d_is_token, d_first_wrong, d_check_tokens, d_show_tokens, d_words_in, d_read_tokens, d__law_sort, d__law_told, d__law_read_right, d_Shape___init__, d_Shape_is_open, d_first_amiss, d_Text___init__, d__law_kinds_right, d__law_cell, d__law_purse, d__law_pick, d__law_names, d__law_one_word, d__law_tokens, d__law_with_note, d__law_shown_right, d__law_odd, d__law_bent, d_law, d_NoTokens___init__]
def defN : List String := ["_law_is_word", "_law_is_name", "_law_is_token", "_law_amiss", "is_name", "is_word", "is_token", "first_wrong", "check_tokens", "show_tokens", "words_in", "read_tokens", "_law_sort", "_law_told", "_law_read_right", "first_amiss", "_law_kinds_right", "_law_cell", "_law_purse", "_law_pick", "_law_names", "_law_one_word", "_law_tokens", "_law_with_note", "_law_shown_right", "_law_odd", "_law_bent", "law"]
def clsN : List String := ["Shape", "Text"]
def refN : List String := ["PAIRS", "BRACKETS", "NoTokens", "NoRows", "NoText", "NoTexts", "TongueError", "StandError", "RoomError", "NoKind", "NoSize", "NoChanges", "NoLine", "NoInclude", "NoStyle", "NoMark", "NoNumber", "NoPlace", "NoDocument", "NoPrinting", "Ring", "Twice", "TooMany", "TooTall", "Clash"]
def conL : List He.Fa := [.int "MOST_NAME" 8, .str "SMALL" "abcdefghijklmnopqrstuvwxyz", .int "MOST_WORD" 12, .str "SIGNS" "abcdefghijklmnopqrstuvwxyzABCDEFGHIJKLMNOPQRSTUVWXYZ0123456789.,", .int "MOST_TOKENS" 40, .int "MOST_ROWS" 80]
def cfL : List He.Fa := [.mkr "Shape", .mkr "Text", .meth "Shape" "is_open", .noat "Shape" "ruled", .noat "Shape" "begun", .noat "Shape" "whens", .noat "Shape" "columns", .noat "Shape" "lines", .noat "Shape" "cover", .noat "Text" "rows"]
def faL : List He.Fa := ((bltN ++ bErr).map fun n => He.Fa.free (Str.ofString n)) ++ ((defN ++ clsN ++ refN).map fun n => He.Fa.glo (Str.ofString n)) ++ conL ++ cfL
def exL (K : PySem.W.Frag) : List Bool := [He.tupB K "BRACKETS" [.str "{", .str "}", .str "[", .str "]"], He.valsB K (He.ga K "PAIRS") [("{", .str "}"), ("[", .str "]")], clsB K "Shape", clsB K "Text", empB K (He.dflAt ("Text", some "__init__") 0 K), subB K bErr subC, xcB K (He.ga K "NoTokens"), oexB K (He.ga K "NoTokens"), iniB K (He.ga K "NoTokens") (He.fAd K d_NoTokens___init__.at_), noB K (He.ga K "NoTokens") "place", xbB K (He.ga K "TongueError")]
def exB (K : PySem.W.Frag) : Bool := (exL K).all id
def tsL : List He.Tab := [(fun K => He.ga K "PAIRS", ["{", "["])]
end k03
end PT
end
section
set_option linter.all false
set_option maxRecDepth 100000
set_option maxHeartbeats 0
namespace PT
namespace k03
open PySem PySem.W PySem.Calls PyProof.Rows
abbrev hdR : OpenRow := OpenLaw.row PySem.Challenge.rw_papertongue_k03_tokens_refused
abbrev hdQ : Program := view hdR.prog [96]
def hdN0 : List PySem.Str := ["_wall", "TongueError", "StandError", "RoomError", "NoTokens", "NoRows", "NoText", "NoTexts", "NoKind", "NoSize", "NoChanges", "NoLine", "NoInclude", "NoStyle", "NoMark", "NoNumber", "NoPlace", "NoDocument", "NoPrinting", "Ring"]
def hdN1 : List PySem.Str := ["Twice", "TooMany", "TooTall", "Clash", "SMALL", "GREAT", "FIGURES", "SIGNS", "MOST_NAME", "MOST_WORD", "MOST_TOKENS", "PAIRS", "BRACKETS", "is_whole", "is_within", "is_name", "is_word", "is_token", "first_wrong", "is_tokens"]
def hdN2 : List PySem.Str := ["is_plain", "is_bare", "check_tokens", "show_tokens", "words_in", "read_tokens", "ALIGNS", "COUNTED", "WAYS", "SORTS", "KINDS", "NO_STYLE", "MOST_LINES", "MOST_WHENS", "is_style", "is_align", "is_counted", "is_way", "is_sort", "is_kind"]
def hdN3 : List PySem.Str := ["CHECKS", "NUMBERS", "FORMS", "TOKENED", "is_part", "is_row", "has_tokens", "row_words", "row_text", "Shape", "MOST_ROWS", "first_amiss", "Text", "_law_cell", "_law_purse", "_law_pick", "_law_one_word", "_law_names", "_law_tokens", "_law_with_note"]
def hdN4 : List PySem.Str := ["_law_sort", "_law_is_name", "_law_is_word", "_law_is_token", "_law_amiss", "_law_told", "_law_shown_right", "_law_read_right", "_law_odd", "_law_bent", "_law_kinds_right"]
def hdN : List PySem.Str := hdN0 ++ hdN1 ++ hdN2 ++ hdN3 ++ hdN4
abbrev hdV : Type := He.AlD × Bool × List (Option (List (Option (Str × Int))))
def hdObs (K : PySem.W.Frag) : hdV := (He.obsD faL fnL K, exB K, tsL.map fun t => He.dicW K (t.1 K))
def hdVal (w : World) : hdV := (He.valD fnL, true, tsL.map fun t => some (He.keysIn w.params t.2))
abbrev hdK : Hook := hookK 2000 hdObs hdVal
def hdO (s : SharedT) : hdV := hdObs (frR 2000 (HandSHeadRun.getT s))
theorem hdO_eq (s : SharedT) : hdO s = hdK.obs s.abs := hookK_eq (N := 2000) (obs := hdObs) (val := hdVal) s
theorem run0 (w : World) : HandSHeadRun.RunEq hdR hdQ hdK hdO 9000 hdN (w.withFollow "special-get-raises" false) := by
  intro os
  kernel_rfl
theorem run1 (w : World) : HandSHeadRun.RunEq hdR hdQ hdK hdO 9000 hdN (w.withFollow "special-get-raises" true) := by
  intro os
  kernel_rfl
theorem run (w : World) : HandSHeadRun.RunEq hdR hdQ hdK hdO 9000 hdN w := byRow2 "special-get-raises" run0 run1 w
end k03
end PT
end
section
set_option linter.all false
set_option maxRecDepth 100000
/-! PtA: values as trees, a heap of changing things, a small syntax and what it asks. -/
namespace PT
open PySem L2

/-- a value: what never changes is a tree; what changes is met by its address -/
inductive D where
  | non | bl (b : Bool) | int (i : Int) | str (s : List Nat)
  | tup (xs : List D) | lst (xs : List D) | scr (xs : List D)
  | ref (a : Nat) | ty (n : String) | gl (x : String)
  | dic (ks vs : List D) | obj (c : String) (ns : List String) (vs : List D)
  | exc (a : Nat) (c : String) (ns : List String) (vs : List D)
/-- what changes -/
inductive MO where
  | lst (xs : List D)
  | dic (kvs : List (D × D))
  | ins (c : String) (fs : List (String × D))
abbrev MH := Nat → Option MO
def MH.set (m : MH) (a : Nat) (o : MO) : MH := fun b => if b = a then some o else m b
/-- what will not change any more -/
def MH.del (m : MH) (a : Nat) : MH := fun b => if b = a then none else m b
theorem MH.del_same {m : MH} {a : Nat} : m.del a a = none := by unfold MH.del; rw [if_pos rfl]
theorem MH.del_ne {m : MH} {a b : Nat} (h : b ≠ a) : m.del a b = m b := by unfold MH.del; rw [if_neg h]
theorem MH.del_set {m : MH} {a : Nat} {o : MO} (h : m a = none) : (m.set a o).del a = m := by
  funext b
  unfold MH.del MH.set
  split
  · rename_i e; rw [e, h]
  · rfl
theorem MH.set_same {m : MH} {a : Nat} {o : MO} : m.set a o a = some o := by unfold MH.set; rw [if_pos rfl]
theorem MH.set_ne {m : MH} {a b : Nat} {o : MO} (h : b ≠ a) : m.set a o b = m b := by unfold MH.set; rw [if_neg h]
theorem MH.set_set {m : MH} {a : Nat} {o u : MO} : (m.set a o).set a u = m.set a u := by funext b; unfold MH.set; split <;> rfl
theorem MH.set_eta {m : MH} {a : Nat} {o : MO} (h : m a = some o) : m.set a o = m := by
  funext b
  unfold MH.set
  split
  · rename_i e; rw [e, h]
  · rfl
/-- an exception: its class, its fields -/
structure Xn where
  c : String
  fs : List (String × D)
abbrev Env0 := List (Option D)
abbrev QD := D → MH → Prop
abbrev QX := Xn → MH → Prop

def getw {α : Type} (o : Option α) (k : α → Prop) : Prop := match o with | some a => k a | none => False
@[simp] theorem getw_some {α : Type} {a : α} {k : α → Prop} : getw (some a) k = k a := rfl
@[simp] theorem getw_none {α : Type} {k : α → Prop} : getw (none : Option α) k = False := rfl
theorem getw_iff {α : Type} {o : Option α} {k : α → Prop} : getw o k ↔ ∃ a, o = some a ∧ k a := by
  cases o with
  | none => simp
  | some a => simp
def slot : Env0 → Nat → Option D
  | [], _ => none
  | x :: _, 0 => x
  | _ :: r, n + 1 => slot r n
@[simp] theorem slot_zero {x : Option D} {r : Env0} : slot (x :: r) 0 = x := rfl
@[simp] theorem slot_succ {x : Option D} {r : Env0} {n : Nat} : slot (x :: r) (n + 1) = slot r n := rfl
def put : Env0 → Nat → Option D → Env0
  | [], _, _ => []
  | _ :: r, 0, v => v :: r
  | x :: r, n + 1, v => x :: put r n v
@[simp] theorem put_zero {x : Option D} {r : Env0} {v : Option D} : put (x :: r) 0 v = v :: r := rfl
@[simp] theorem put_succ {x : Option D} {r : Env0} {n : Nat} {v : Option D} : put (x :: r) (n + 1) v = x :: put r n v := rfl
def wipes (ρ : Env0) : List Nat → Env0
  | [] => ρ
  | v :: vs => put (wipes ρ vs) v none

/-! ### data -/
mutual
def D.toP : D → PyData
  | .non => .none | .bl b => .bool b | .int i => .int i | .str s => .str ⟨s.toArray⟩
  | .tup xs => .tuple (D.toPs xs) | .lst xs => .list (D.toPs xs) | .scr xs => .list (D.toPs xs)
  | .ref _ => .none | .ty _ => .none | .gl _ => .none
  | .dic _ _ => .none | .obj _ _ _ => .none | .exc _ _ _ _ => .none
def D.toPs : List D → List PyData
  | [] => []
  | x :: xs => D.toP x :: D.toPs xs
end
mutual
/-- no address, class or def within -/
def D.data : D → Bool
  | .non | .bl _ | .int _ | .str _ => true
  | .tup xs | .lst xs | .scr xs => D.datas xs
  | .ref _ | .ty _ | .gl _ | .dic _ _ | .obj _ _ _ | .exc _ _ _ _ => false
def D.datas : List D → Bool
  | [] => true
  | x :: xs => D.data x && D.datas xs
end
mutual
def D.dep : D → Nat
  | .tup xs | .lst xs | .scr xs => D.deps xs + 1
  | _ => 0
def D.deps : List D → Nat
  | [] => 0
  | x :: xs => max (D.dep x) (D.deps xs)
end
mutual
def D.eqv : D → D → Bool
  | .non, .non => true
  | .bl a, .bl b => a == b
  | .bl a, .int j => (if a then 1 else 0) == j
  | .int i, .bl b => i == (if b then 1 else 0)
  | .int i, .int j => i == j
  | .str s, .str t => s == t
  | .tup xs, .tup ys => D.eqvs xs ys
  | .lst xs, .lst ys => D.eqvs xs ys
  | .lst xs, .scr ys => D.eqvs xs ys
  | .scr xs, .lst ys => D.eqvs xs ys
  | .scr xs, .scr ys => D.eqvs xs ys
  | _, _ => false
def D.eqvs : List D → List D → Bool
  | [], [] => true
  | x :: xs, y :: ys => D.eqv x y && D.eqvs xs ys
  | _, _ => false
end
/-- a list's items, wherever it stands -/
def lstOf (m : MH) : D → Option (List D)
  | .lst xs => some xs
  | .scr xs => some xs
  | .ref a => match m a with | some (.lst xs) => some xs | _ => none
  | _ => none
/-- a changing list as it stands now -/
def res (m : MH) : D → D
  | .ref a => match m a with | some (.lst xs) => .lst xs | _ => .ref a
  | d => d
def eqD (m : MH) (x y : D) : Option Bool :=
  if (res m x).data && (res m y).data && decide ((res m x).dep ≤ 60) && decide ((res m y).dep ≤ 60) then some ((res m x).eqv (res m y)) else none

/-! ### truth, length, types -/
def truD (m : MH) : D → Option Bool
  | .non => some false
  | .bl b => some b
  | .int i => some (i != 0)
  | .str s => some (s.length != 0)
  | .tup xs | .lst xs | .scr xs => some (!xs.isEmpty)
  | .dic ks _ => some (!ks.isEmpty)
  | .ref a => match m a with | some (.lst xs) => some (!xs.isEmpty) | some (.dic kvs) => some (!kvs.isEmpty) | _ => none
  | _ => none
def lenD (m : MH) : D → Option Nat
  | .str s => some s.length
  | .tup xs | .lst xs | .scr xs => some xs.length
  | .ref a => match m a with | some (.lst xs) => some xs.length | _ => none
  | _ => none
/-- a thing's class, by a name: a built-in one's, or that of an own one behind a sign -/
def tyD (m : MH) : D → Option String
  | .non => some "NoneType" | .bl _ => some "bool" | .int _ => some "int" | .str _ => some "str" | .tup _ => some "tuple" | .lst _ | .scr _ => some "list"
  | .ref a => match m a with | some (.lst _) => some "list" | some (.dic _) => some "dict" | some (.ins c _) => some c | _ => none
  | .dic _ _ => some "dict"
  | .obj c _ _ => some c
  | _ => none
def isiTy (t c : String) : Bool := t == c || (t == "bool" && c == "int")
/-! ### operators -/
inductive BOp | add | sub | mul | fdiv | mod | pow
  deriving DecidableEq
inductive COp | eq | ne | lt | le | gt | ge | is_ | isn | in_ | nin
  deriving DecidableEq
def addD (m : MH) : D → D → Option D
  | .int i, .int j => some (.int (i + j))
  | .str s, .str t => if s.length + t.length ≤ sizeLine then some (.str (s ++ t)) else none
  | .tup xs, .tup ys => if xs.length + ys.length ≤ sizeLine then some (.tup (xs ++ ys)) else none
  | .lst xs, .lst ys => if xs.length + ys.length ≤ sizeLine then some (.lst (xs ++ ys)) else none
  | .ref a, .lst ys => match m a with
    | some (.lst xs) => if xs.length + ys.length ≤ sizeLine then some (.lst (xs ++ ys)) else none
    | _ => none
  | .lst xs, .ref b => match m b with
    | some (.lst ys) => if xs.length + ys.length ≤ sizeLine then some (.lst (xs ++ ys)) else none
    | _ => none
  | _, _ => none
def mulD : D → D → Option D
  | .int i, .int j => if i.natAbs < 2 ^ 63 ∨ j.natAbs < 2 ^ 63 then some (.int (i * j)) else none
  | .str s, .int k => if -1000000 ≤ k ∧ k ≤ 1000000 ∧ s.length * k.toNat ≤ sizeLine then some (.str (List.replicate k.toNat s).flatten) else none
  | .tup xs, .int k => if -1000000 ≤ k ∧ k ≤ 1000 ∧ xs.length ≤ 1000 ∧ 0 < xs.length then some (.tup (List.replicate k.toNat xs).flatten) else none
  | .lst xs, .int k => if -1000000 ≤ k ∧ k ≤ 1000000 ∧ xs.length * k.toNat ≤ sizeLine then some (.lst (List.replicate k.toNat xs).flatten) else none
  | _, _ => none
def subD : D → D → Option D
  | .int i, .int j => some (.int (i - j))
  | _, _ => none
def fdivD : D → D → Option D
  | .int i, .int j => if 0 < j ∧ j < 1073741824 then some (.int (i / j)) else none
  | _, _ => none
def modD : D → D → Option D
  | .int i, .int j => if 0 < j then some (.int (i % j)) else none
  | _, _ => none
def powD : D → D → Option D
  | .int i, .int j => if 0 ≤ j ∧ j ≤ 1000 ∧ i.natAbs < 2 ^ 63 then some (.int (i ^ j.toNat)) else none
  | _, _ => none
def binD (m : MH) : BOp → D → D → Option D
  | .add, x, y => addD m x y
  | .sub, x, y => subD x y
  | .mul, x, y => mulD x y
  | .fdiv, x, y => fdivD x y
  | .mod, x, y => modD x y
  | .pow, x, y => powD x y
def isN : D → Option Bool
  | .gl _ => none
  | .non => some true
  | _ => some false
def isD (m : MH) : D → D → Option Bool
  | x, .non => isN x
  | .bl a, .bl b => some (a == b)
  | _, _ => none
def D.flat : D → Bool
  | .non | .bl _ | .int _ | .str _ => true
  | _ => false
def inSeq (x : D) (xs : List D) : Option Bool := if x.flat && xs.all D.flat then some (xs.any fun y => y.eqv x) else none
def inD (m : MH) : D → D → Option Bool
  | .str [c], .str s => some (s.elem c)
  | x, .tup xs => inSeq x xs
  | x, .lst xs => inSeq x xs
  | x, .ref a => match m a with
    | some (.lst xs) => inSeq x xs
    | _ => none
  | _, _ => none
def ordD (p : Int → Int → Bool) (q : List Nat → List Nat → Bool) : D → D → Option Bool
  | .int i, .int j => some (p i j)
  | .str s, .str t => some (q s t)
  | _, _ => none
def cmpD (m : MH) : COp → D → D → Option Bool
  | .eq, x, y => eqD m x y
  | .ne, x, y => (eqD m x y).map not
  | .lt, x, y => ordD (fun i j => decide (i < j)) (fun s t => decide (s < t)) x y
  | .le, x, y => ordD (fun i j => decide (i ≤ j)) (fun s t => !decide (t < s)) x y
  | .gt, x, y => ordD (fun i j => decide (j < i)) (fun s t => decide (t < s)) x y
  | .ge, x, y => ordD (fun i j => decide (j ≤ i)) (fun s t => !decide (s < t)) x y
  | .is_, x, y => isD m x y
  | .isn, x, y => (isD m x y).map not
  | .in_, x, y => inD m x y
  | .nin, x, y => (inD m x y).map not
def atD (m : MH) : D → D → Option D
  | .str s, .int i => (atI s i).map fun c => .str [c]
  | .tup xs, .int i => atI xs i
  | .lst xs, .int i => atI xs i
  | .scr xs, .int i => atI xs i
  | .ref a, .int i => match m a with
    | some (.lst xs) => atI xs i
    | _ => none
  | _, _ => none
def cut {α : Type} (xs : List α) (lo hi : Option Int) : List α := (xs.drop (HT.sIx xs.length 0 lo)).take (HT.sIx xs.length xs.length hi - HT.sIx xs.length 0 lo)
def slD (m : MH) (lo hi : Option Int) : D → Option D
  | .str s => some (.str (cut s lo hi))
  | .tup xs => some (.tup (cut xs lo hi))
  | .lst xs => some (.lst (cut xs lo hi))
  | .scr xs => some (.lst (cut xs lo hi))
  | .ref a => match m a with
    | some (.lst xs) => some (.lst (cut xs lo hi))
    | _ => none
  | _ => none
/-- a field -/
def fldD (m : MH) : D → String → Option D
  | .ref a, f => match m a with
    | some (.ins _ fs) => fs.lookup f
    | _ => none
  | .obj _ ns vs, f => (ns.zip vs).lookup f
  | _, _ => none
/-- an exception's field -/
def xatD : D → String → Option D
  | .exc _ _ ns vs, f => (ns.zip vs).lookup f
  | _, _ => none
def putFD (f : String) (d : D) : List (String × D) → List (String × D)
  | [] => [(f, d)]
  | p :: r => if p.1 = f then (f, d) :: r else p :: putFD f d r
/-- .. is set -/
def setFD (m : MH) : D → String → D → Option MH
  | .ref a, f, d => match m a with
    | some (.ins c fs) => if fs.length < 100 then some (m.set a (.ins c (putFD f d fs))) else none
    | _ => none
  | _, _, _ => none
/-- what will not change any more, as a tree -/
def frzD (m : MH) : D → Option (D × MH)
  | .ref a => match m a with
    | some (.lst xs) => some (.lst xs, m.del a)
    | some (.dic kvs) => some (.dic (kvs.map (·.1)) (kvs.map (·.2)), m.del a)
    | some (.ins c fs) => some (.obj c (fs.map (·.1)) (fs.map (·.2)), m.del a)
    | none => none
  | d => some (d, m)
def revD (m : MH) : D → Option D
  | .tup xs => some (.tup xs.reverse)
  | .lst xs => some (.lst xs.reverse)
  | .ref a => match m a with
    | some (.lst xs) => some (.lst xs.reverse)
    | _ => none
  | _ => none
/-- a, .., *b = d: what each name gets -/
def starD (n : Nat) : D → Option (List D)
  | .tup xs => if n ≤ xs.length then some (xs.take n ++ [.lst (xs.drop n)]) else none
  | _ => none
/-! ### dicts -/
/-- keys alike -/
def D.keq : D → D → Bool
  | .int i, .int j => i == j
  | .str s, .str t => s == t
  | _, _ => false
def D.isK : D → Bool
  | .int _ | .str _ => true
  | _ => false
def lookK (kvs : List (D × D)) (y : D) : Option D := (kvs.find? fun p => p.1.keq y).map (·.2)
def dicOf (m : MH) : D → Option (List (D × D))
  | .dic ks vs => some (ks.zip vs)
  | .ref a => match m a with | some (.dic kvs) => some kvs | _ => none
  | _ => none
def dinD (m : MH) (x y : D) : Option Bool := if y.isK then (dicOf m x).map fun kvs => (lookK kvs y).isSome else none
def dgetD (m : MH) (x y : D) : Option D := if y.isK then (dicOf m x).bind fun kvs => lookK kvs y else none
/-! ### methods, built-in functions -/
/-- items that are texts -/
def strsOf : List D → Option (List (List Nat))
  | [] => some []
  | .str s :: r => (strsOf r).map (s :: ·)
  | _ => none
def boolsOf : List D → Option (List Bool)
  | [] => some []
  | .bl b :: r => (boolsOf r).map (b :: ·)
  | _ => none
def intsOf : List D → Option (List Int)
  | [] => some []
  | .int b :: r => (intsOf r).map (b :: ·)
  | _ => none
/-- the items of a list or a tuple -/
def seqOf (m : MH) : D → Option (List D)
  | .tup xs => some xs
  | d => lstOf m d
/-- a text parted at each sign c (acc: what stands ahead) -/
def splitB (c : Nat) : List Nat → List Nat → List (List Nat)
  | acc, [] => [acc]
  | acc, x :: r => if x = c then acc :: splitB c [] r else splitB c (acc ++ [x]) r
def joinM (m : MH) : D → List D → Option D
  | .str sep, [l] => (seqOf m l).bind fun xs => (strsOf xs).bind fun ss => if (ss.map (·.length)).sum + ss.length * sep.length ≤ 16777216 then some (.str (TL.joinL sep ss)) else none
  | _, _ => none
def splitM : D → List D → Option D
  | .str s, [.str [c]] => if s.length + 2 ≤ sizeLine ∧ c < 256 then some (.lst ((splitB c [] s).map .str)) else none
  | _, _ => none
def appendM (m : MH) : D → List D → Option MH
  | .ref a, [x] => match m a with
    | some (.lst xs) => if xs.length < sizeLine then some (m.set a (.lst (xs ++ [x]))) else none
    | _ => none
  | _, _ => none
def countM (m : MH) : D → List D → Option D
  | l, [y] => (lstOf m l).bind fun xs => if y.flat && xs.all D.flat then some (.int ((xs.countP fun z => z.eqv y : Nat) : Int)) else none
  | _, _ => none
def indexM (m : MH) : D → List D → Option D
  | l, [y] => (lstOf m l).bind fun xs => if y.flat && xs.all D.flat then (xs.findIdx? fun z => z.eqv y).map fun j : Nat => .int (j : Int) else none
  | _, _ => none
/-- a method of a built-in thing: what it tells, and the things that change behind it -/
def metD (m : MH) (name : String) (o : D) (as : List D) : Option (D × MH) :=
  if name = "join" then (joinM m o as).map fun d => (d, m)
  else if name = "split" then (splitM o as).map fun d => (d, m)
  else if name = "append" then (appendM m o as).map fun m' => (.non, m')
  else if name = "count" then (countM m o as).map fun d => (d, m)
  else if name = "index" then (indexM m o as).map fun d => (d, m)
  else none
def lenF (m : MH) : List D → Option D
  | [x] => (lenD m x).map fun n : Nat => D.int (n : Int)
  | _ => none
def isiF (m : MH) : List D → Option D
  | [x, .ty c] => if tyNames.contains c then (tyD m x).map fun t => .bl (isiTy t c) else none
  | _ => none
def allF (m : MH) : List D → Option D
  | [x] => (lstOf m x).bind fun xs => (boolsOf xs).map fun bs => .bl (bs.all id)
  | _ => none
def anyF (m : MH) : List D → Option D
  | [x] => (lstOf m x).bind fun xs => (boolsOf xs).map fun bs => .bl (bs.any id)
  | _ => none
def tupF (m : MH) : List D → Option D
  | [x] => (seqOf m x).map .tup
  | _ => none
def lstF (m : MH) : List D → Option D
  | [x] => (seqOf m x).map .lst
  | _ => none
def intF : List D → Option D
  | [.int i] => some (.int i)
  | [.bl b] => some (.int (if b then 1 else 0))
  | _ => none
def maxF : List D → Option D
  | [.int i, .int j] => some (.int (if j > i then j else i))
  | _ => none
def minF : List D → Option D
  | [.int i, .int j] => some (.int (if j < i then j else i))
  | _ => none
def meT (name : String) : String := if name = "append" then "list" else if name = "count" then "list" else if name = "index" then "list" else "str"
def bifD (m : MH) (name : String) (as : List D) : Option D :=
  if name = "len" then lenF m as
  else if name = "isinstance" then isiF m as
  else if name = "all" then allF m as
  else if name = "any" then anyF m as
  else if name = "tuple" then tupF m as
  else if name = "list" then lstF m as
  else if name = "int" then intF as
  else if name = "max" then maxF as
  else if name = "min" then minF as
  else none
/-! ### what a for walks -/
inductive ItK | val | range | enum | zip
  deriving DecidableEq
def rangeD (lo : Int) : Nat → List D
  | 0 => []
  | n + 1 => .int lo :: rangeD (lo + 1) n
def enumD (i : Int) : List D → List D
  | [] => []
  | x :: r => .tup [.int i, x] :: enumD (i + 1) r
/-- what will not change: its items -/
def seqS : D → Option (List D)
  | .tup xs | .lst xs | .scr xs => some xs
  | _ => none
def zipD (xs ys : List D) : List D := List.zipWith (fun x y => .tup [x, y]) xs ys
/-- the items, and the list that must stand still meanwhile -/
def itD (m : MH) : ItK → List D → Option (List D × Option (Nat × List D))
  | .val, [.tup xs] => some (xs, none)
  | .val, [.lst xs] => some (xs, none)
  | .val, [.scr xs] => some (xs, none)
  | .val, [.str s] => some (s.map fun c => .str [c], none)
  | .val, [.ref a] => match m a with | some (.lst xs) => some (xs, some (a, xs)) | _ => none
  | .range, [.int n] => if n ≤ sizeLine ∧ -(2 ^ 62) ≤ n then some (rangeD 0 n.toNat, none) else none
  | .range, [.int i, .int n] => if n ≤ sizeLine ∧ -1000000 ≤ i ∧ i ≤ sizeLine ∧ -(2 ^ 62) ≤ n ∧ n - i ≤ sizeLine then some (rangeD i (n - i).toNat, none) else none
  | .zip, [x, y] => (seqS x).bind fun xs => (seqS y).map fun ys => (zipD xs ys, none)
  | .enum, [.tup xs] => some (enumD 0 xs, none)
  | .enum, [.lst xs] => some (enumD 0 xs, none)
  | .enum, [.ref a] => match m a with | some (.lst xs) => some (enumD 0 xs, some (a, xs)) | _ => none
  | _, _ => none
def gOk (m : MH) : Option (Nat × List D) → Prop
  | none => True
  | some (a, xs) => m a = some (.lst xs)
@[simp] theorem gOk_none {m : MH} : gOk m none = True := rfl

/-! ### the syntax -/
/-- a default value -/
inductive DC | non | bl (b : Bool) | int (i : Int) | str (s : List Nat) | emp
  deriving DecidableEq
def DC.d : DC → D
  | .non => .non | .bl b => .bl b | .int i => .int i | .str s => .str s | .emp => .tup []
/-- what a parameter gets: an argument by place, one by its name, its default -/
inductive AS | p (i : Nat) | k (i : Nat) | d (v : DC)
  deriving DecidableEq
/-- how a def is called: so many arguments by place, these names, what each parameter gets -/
structure Sg where
  n : Nat
  ks : List String
  ar : List AS
  deriving DecidableEq
def AS.get (ds ys : List D) : AS → D
  | .p i => ds.getD i .non | .k i => ys.getD i .non | .d v => v.d
def Sg.put (s : Sg) (ds ys : List D) : List D := s.ar.map (AS.get ds ys)
inductive CS | pl (n : Nat) | kw (s : Sg) | me (t f : String) (n : Nat) | ht (n : Nat)
  deriving DecidableEq
def CS.n : CS → Nat
  | .pl n => n | .kw s => s.n | .me _ _ n => n | .ht n => n
def CS.ks : CS → List String
  | .pl _ => [] | .kw s => s.ks | .me _ _ _ => [] | .ht _ => []
def CS.arr : CS → List D → List D → List D
  | .pl _, ds, _ => ds | .kw s, ds, ys => s.put ds ys | .me _ _ _, ds, _ => ds | .ht _, ds, _ => ds
inductive Tg where
  | nm (i : Nat)
  | tp (ts : List Tg)
inductive Ex where
  | var (i : Nat)
  | lit (d : D)
  | glo (x : String)
  | tup (es : List Ex)
  | lst (es : List Ex)
  | newl (es : List Ex)
  | newd
  | dlit (ks : List (List Nat)) (es : List Ex)
  | bin (op : BOp) (a b : Ex)
  | neg (a : Ex)
  | cmp (op : COp) (a b : Ex)
  | cmp2 (op op' : COp) (a b c : Ex)
  | and (a b : Ex)
  | or (a b : Ex)
  | not (a : Ex)
  | ite (c a b : Ex)
  | idx (a i : Ex)
  | sl (a : Ex) (lo hi : List Ex)
  | call (f : String) (es : List Ex)
  | callk (f : String) (sg : Sg) (es ws : List Ex)
  | bi (f : String) (es : List Ex)
  | me (f : String) (o : Ex) (es : List Ex)
  | gin (neg : Bool) (e : Ex) (x : String)
  | gat (x : String) (e : Ex)
  | attr (o : Ex) (f : String)
  | isi (e : Ex) (x : String)
  | frz (e : Ex)
  | mth (t f : String) (o : Ex) (es : List Ex)
  | rev (a : Ex)
  | din (neg : Bool) (k d : Ex)
  | dget (d k : Ex)
  | isx (e : Ex) (x : String)
  | xat (e : Ex) (f : String)
  | xcall (f : String) (es : List Ex)
  | cv (i : Nat) (gs : List String) (es : List Ex)
  | hcomp (i : Nat) (elt : Ex) (v : Nat) (e : Ex) (own : List Nat)
  | comp (elt : Ex) (tg : Tg) (k : ItK) (es : List Ex) (ifs : List Ex) (own : List Nat) (mu : Bool)
inductive St where
  | asg (tg : Tg) (e : Ex)
  | par (is : List Nat) (es : List Ex)
  | star (is : List Nat) (j : Nat) (e : Ex)
  | seti (o i e : Ex)
  | seta (o : Ex) (f : String) (e : Ex)
  | auga (o : Ex) (f : String) (op : BOp) (e : Ex)
  | aug (i : Nat) (op : BOp) (e : Ex)
  | expr (e : Ex)
  | ret (e : Ex)
  | ite (c : Ex) (a b : List St)
  | for_ (tg : Tg) (k : ItK) (es : List Ex) (body : List St)
  | while_ (c : Ex) (body : List St)
  | pass | brk | cont
  | never
  | raise (f : String) (es : List Ex)
  | tryx (body : List St) (cs : List String) (i : Nat) (suite : List St)

structure Cfg where
  call : String → List D → MH → QD → QX → Prop
  glob : String → Option D
  dic : String → Option (List (List Nat × D))
  fld : String → String → Bool := fun _ _ => false
  cls : String → Bool := fun _ => false
  /-- exceptions: of the class c, an instance of x too? -/
  sub : String → String → Option Bool := fun _ _ => none
  /-- .. the fields that the class sets, in the turn of its arguments -/
  exn : String → Option (List String) := fun _ => none
  /-- .. a field that is read -/
  xfld : String → String → Bool := fun _ _ => false
  /-- .. the one that is handled -/
  hot : Option Nat := none
  /-- defs called where it is -/
  callh : Nat → String → List D → MH → QD → QX → Prop := fun _ _ _ _ _ _ => False
/-- what the check looks at -/
structure Cks where
  glob : String → Option D
  dic : String → Option (List (List Nat × D))
  cls : String → Bool
  sub : String → String → Option Bool
  exn : String → Option (List String)
def Cfg.ks (c : Cfg) : Cks := ⟨c.glob, c.dic, c.cls, c.sub, c.exn⟩
/-- where the exception at a is handled -/
def Cfg.heat (c : Cfg) (a : Nat) : Cfg := { c with hot := some a, call := c.callh a }
/-- what of an exception of the class c an except clause for cs says -/
def subAny (c : Cfg) (x : String) : List String → Option Bool
  | [] => some false
  | y :: ys => match c.sub x y, subAny c x ys with
    | some b, some b' => some (b || b')
    | _, _ => none
def Xn.d (x : Xn) (a : Nat) : D := .exc a x.c (x.fs.map (·.1)) (x.fs.map (·.2))

mutual
def tgD : Tg → D → Env0 → Option Env0
  | .nm i, d, ρ => some (put ρ i (some d))
  | .tp ts, .tup xs, ρ => tgDs ts xs ρ
  | .tp ts, .lst xs, ρ => tgDs ts xs ρ
  | .tp _, _, _ => none
def tgDs : List Tg → List D → Env0 → Option Env0
  | [], [], ρ => some ρ
  | t :: ts, x :: xs, ρ => (tgD t x ρ).bind fun ρ' => tgDs ts xs ρ'
  | _, _, _ => none
end
/-- the turns of a comprehension -/
def compW (g : Option (Nat × List D)) (step : D → MH → (Option D → MH → Prop) → Prop) : List D → List D → MH → QD → Prop
  | [], acc, m, Q => gOk m g ∧ Q (.lst acc) m
  | d :: ds, acc, m, Q => gOk m g ∧ step d m fun r m' => match r with
    | some y => compW g step ds (acc ++ [y]) m' Q
    | none => compW g step ds acc m' Q
/-- the turns of a for -/
def forW (g : Option (Nat × List D)) (tg : Tg) (body : Env0 → MH → (Env0 → MH → Prop) → Prop) : List D → Env0 → MH → (Env0 → MH → Prop) → Prop
  | [], ρ, m, nx => gOk m g ∧ nx ρ m
  | d :: ds, ρ, m, nx => gOk m g ∧ getw (tgD tg d ρ) fun ρ' => body ρ' m fun ρ2 m2 => forW g tg body ds ρ2 m2 nx
/-- the def that a value is -/
def glNm : D → Option String
  | .gl f => some f
  | _ => none
def noX : QX := fun _ _ => False
/-- a new list that will change -/
def muQ (mu : Bool) (Q : QD) : QD := fun d m => match mu with
  | true => (match d with | .lst acc => ∀ p, m p = none → Q (.ref p) (m.set p (.lst acc)) | _ => False)
  | false => Q d m

mutual
def wpE (c : Cfg) : Ex → Env0 → MH → QD → QX → Prop
  | .var i, ρ, m, Q, _ => getw (slot ρ i) fun d => Q d m
  | .lit d, _, m, Q, _ => Q d m
  | .glo x, _, m, Q, _ => getw (c.glob x) fun d => Q d m
  | .tup es, ρ, m, Q, E => wpEs c es ρ m (fun ds m1 => Q (.tup ds) m1) E
  | .lst es, ρ, m, Q, E => wpEs c es ρ m (fun ds m1 => Q (.lst ds) m1) E
  | .newl es, ρ, m, Q, E => wpEs c es ρ m (fun ds m1 => ∀ p, m1 p = none → Q (.ref p) (m1.set p (.lst ds))) E
  | .newd, _, m, Q, _ => ∀ p, m p = none → Q (.ref p) (m.set p (.dic []))
  | .dlit ks es, ρ, m, Q, E => wpEs c es ρ m (fun ds m1 => ∀ p, m1 p = none → Q (.ref p) (m1.set p (.dic ((ks.map D.str).zip ds)))) E
  | .bin op a b, ρ, m, Q, E => wpE c a ρ m (fun x m1 => wpE c b ρ m1 (fun y m2 => getw (binD m2 op x y) fun z => Q z m2) E) E
  | .neg a, ρ, m, Q, E => wpE c a ρ m (fun x m1 => match x with | .int i => Q (.int (-i)) m1 | _ => False) E
  | .cmp op a b, ρ, m, Q, E => wpE c a ρ m (fun x m1 => wpE c b ρ m1 (fun y m2 => getw (cmpD m2 op x y) fun z => Q (.bl z) m2) E) E
  | .cmp2 op op' a b d, ρ, m, Q, E => wpE c a ρ m (fun x m1 => wpE c b ρ m1 (fun y m2 => getw (cmpD m2 op x y) fun z =>
      if z = true then wpE c d ρ m2 (fun u m3 => getw (cmpD m3 op' y u) fun z' => Q (.bl z') m3) E else Q (.bl false) m2) E) E
  | .and a b, ρ, m, Q, E => wpE c a ρ m (fun x m1 => getw (truD m1 x) fun t => if t = true then wpE c b ρ m1 Q E else Q x m1) E
  | .or a b, ρ, m, Q, E => wpE c a ρ m (fun x m1 => getw (truD m1 x) fun t => if t = true then Q x m1 else wpE c b ρ m1 Q E) E
  | .not a, ρ, m, Q, E => wpE c a ρ m (fun x m1 => getw (truD m1 x) fun t => Q (.bl (!t)) m1) E
  | .ite d a b, ρ, m, Q, E => wpE c d ρ m (fun x m1 => getw (truD m1 x) fun t => if t = true then wpE c a ρ m1 Q E else wpE c b ρ m1 Q E) E
  | .idx a i, ρ, m, Q, E => wpE c a ρ m (fun x m1 => wpE c i ρ m1 (fun y m2 => getw (atD m2 x y) fun z => Q z m2) E) E
  | .sl a lo hi, ρ, m, Q, E => wpE c a ρ m (fun x m1 => wpP c lo ρ m1 (fun l m2 => wpP c hi ρ m2 (fun h m3 => getw (slD m3 l h x) fun z => Q z m3) E) E) E
  | .call f es, ρ, m, Q, E => wpEs c es ρ m (fun ds m1 => c.call f ds m1 Q E) E
  | .callk f sg es ws, ρ, m, Q, E => wpEs c es ρ m (fun ds m1 => wpEs c ws ρ m1 (fun ys m2 => c.call f (sg.put ds ys) m2 Q E) E) E
  | .bi f es, ρ, m, Q, E => wpEs c es ρ m (fun ds m1 => getw (bifD m1 f ds) fun z => Q z m1) E
  | .me f o es, ρ, m, Q, E => wpE c o ρ m (fun x m1 => tyD m1 x = some (meT f) ∧ wpEs c es ρ m1 (fun ds m2 => getw (metD m2 f x ds) fun z => Q z.1 z.2) E) E
  | .gin neg e x, ρ, m, Q, E => wpE c e ρ m (fun v m1 => match v with | .str s => getw (c.dic x) fun tab => Q (.bl ((tab.lookup s).isSome != neg)) m1 | _ => False) E
  | .gat x e, ρ, m, Q, E => wpE c e ρ m (fun v m1 => match v with | .str s => getw (c.dic x) fun tab => getw (tab.lookup s) fun d => Q d m1 | _ => False) E
  | .attr o f, ρ, m, Q, E => wpE c o ρ m (fun x m1 => getw (tyD m1 x) fun t => c.fld t f = true ∧ getw (fldD m1 x f) fun d => Q d m1) E
  | .isi e x, ρ, m, Q, E => wpE c e ρ m (fun v m1 => getw (tyD m1 v) fun t => (c.cls x = true ∧ (tyNames.contains t || c.cls t) = true) ∧ Q (.bl (t == x)) m1) E
  | .frz e, ρ, m, Q, E => wpE c e ρ m (fun v m1 => getw (frzD m1 v) fun z => Q z.1 z.2) E
  | .mth t f o es, ρ, m, Q, E => wpE c o ρ m (fun x m1 => (tyD m1 x = some t ∧ fldD m1 x f = none) ∧ wpEs c es ρ m1 (fun ds m2 => c.call (t ++ "." ++ f) (x :: ds) m2 Q E) E) E
  | .rev a, ρ, m, Q, E => wpE c a ρ m (fun x m1 => getw (revD m1 x) fun z => Q z m1) E
  | .din neg k d, ρ, m, Q, E => wpE c k ρ m (fun y m1 => wpE c d ρ m1 (fun x m2 => getw (dinD m2 x y) fun b => Q (.bl (b != neg)) m2) E) E
  | .dget d k, ρ, m, Q, E => wpE c d ρ m (fun x m1 => wpE c k ρ m1 (fun y m2 => getw (dgetD m2 x y) fun z => Q z m2) E) E
  | .isx e x, ρ, m, Q, E => wpE c e ρ m (fun v m1 => match v with | .exc _ t _ _ => getw (c.sub t x) fun b => Q (.bl b) m1 | _ => False) E
  | .xat e f, ρ, m, Q, E => wpE c e ρ m (fun v m1 => (match v with | .exc _ t _ _ => c.xfld t f = true | _ => False) ∧ getw (xatD v f) fun d => Q d m1) E
  | .xcall f es, ρ, m, Q, E => wpEs c es ρ m (fun ds m1 => c.call f ds m1 Q E) E
  | .hcomp i elt v e own, ρ, m, Q, E => (getw (slot ρ i) fun x => match x with | .exc a _ _ _ => c.hot = some a | _ => False) ∧ wpE c e ρ m (fun n m1 => getw (itD m1 .range [n]) fun ig =>
      compW ig.2 (fun d m2 K => getw (tgD (.nm v) d (wipes ρ own)) fun ρ' => wpE c elt ρ' m2 (fun y m4 => K (some y) m4) noX) ig.1 [] m1 Q) E
  | .cv i gs es, ρ, m, Q, E => getw (slot ρ i) fun v => getw (glNm v) fun f => f ∈ gs ∧ wpEs c es ρ m (fun ds m1 => c.call f ds m1 Q E) E
  | .comp elt tg k es ifs own mu, ρ, m, Q, E => wpEs c es ρ m (fun ds m1 => getw (itD m1 k ds) fun ig =>
      compW ig.2 (fun d m2 K => getw (tgD tg d (wipes ρ own)) fun ρ' => wpTs c ifs ρ' m2 fun t m3 => if t = true then wpE c elt ρ' m3 (fun y m4 => K (some y) m4) noX else K none m3) ig.1 [] m1 (muQ mu Q)) E
termination_by structural x => x
def wpEs (c : Cfg) : List Ex → Env0 → MH → (List D → MH → Prop) → QX → Prop
  | [], _, m, Q, _ => Q [] m
  | e :: es, ρ, m, Q, E => wpE c e ρ m (fun d m1 => wpEs c es ρ m1 (fun ds m2 => Q (d :: ds) m2) E) E
termination_by structural x => x
/-- a part of a slice -/
def wpP (c : Cfg) : List Ex → Env0 → MH → (Option Int → MH → Prop) → QX → Prop
  | [], _, m, Q, _ => Q none m
  | [e], ρ, m, Q, E => wpE c e ρ m (fun d m1 => match d with | .int i => Q (some i) m1 | _ => False) E
  | _ :: _ :: _, _, _, _, _ => False
termination_by structural x => x
/-- the tests of a comprehension, none or one -/
def wpTs (c : Cfg) : List Ex → Env0 → MH → (Bool → MH → Prop) → Prop
  | [], _, m, Q => Q true m
  | [e], ρ, m, Q => wpE c e ρ m (fun x m1 => getw (truD m1 x) fun t => Q t m1) noX
  | _ :: _ :: _, _, _, _ => False
termination_by structural x => x
end
structure En where
  nx : Env0 → MH → Prop
  rt : QD
  bk : Env0 → MH → Prop := fun _ _ => False
  ct : Env0 → MH → Prop := fun _ _ => False
  xc : Env0 → QX := fun _ _ _ => False
/-- a test -/
def wpB (c : Cfg) (e : Ex) (ρ : Env0) (m : MH) (K : Bool → MH → Prop) (E : QX) : Prop := wpE c e ρ m (fun x m1 => getw (truD m1 x) fun t => K t m1) E
def setD (m : MH) : D → D → D → Option MH
  | .ref a, .int i, v => match m a with
    | some (.lst xs) => (ixN xs.length i).map fun j => m.set a (.lst (xs.set j v))
    | _ => none
  | _, _, _ => none
def augD (m : MH) : BOp → D → D → Option (D × MH)
  | .add, .int i, .int j => some (.int (i + j), m)
  | .sub, .int i, .int j => some (.int (i - j), m)
  | .add, .str s, .str t => if s.length + t.length ≤ sizeLine then some (.str (s ++ t), m) else none
  | _, _, _ => none
def augI : BOp → D → D → Option D
  | .add, .int i, .int j => some (.int (i + j))
  | .sub, .int i, .int j => some (.int (i - j))
  | _, _, _ => none
mutual
def wpS (c : Cfg) : St → Env0 → MH → En → Prop
  | .asg tg e, ρ, m, K => wpE c e ρ m (fun d m1 => getw (tgD tg d ρ) fun ρ' => K.nx ρ' m1) (K.xc ρ)
  | .par is es, ρ, m, K => wpEs c es ρ m (fun ds m1 => getw (tgDs (is.map .nm) ds ρ) fun ρ' => K.nx ρ' m1) (K.xc ρ)
  | .star is j e, ρ, m, K => wpE c e ρ m (fun d m1 => getw (starD is.length d) fun z => getw (tgDs ((is ++ [j]).map .nm) z ρ) fun ρ' => K.nx ρ' m1) (K.xc ρ)
  | .seti o i e, ρ, m, K => wpE c e ρ m (fun v m1 => wpE c o ρ m1 (fun x m2 => wpE c i ρ m2 (fun y m3 => getw (setD m3 x y v) fun m4 => K.nx ρ m4) (K.xc ρ)) (K.xc ρ)) (K.xc ρ)
  | .seta o f e, ρ, m, K => wpE c e ρ m (fun v m1 => wpE c o ρ m1 (fun x m2 => getw (tyD m2 x) fun t => c.fld t f = true ∧ getw (setFD m2 x f v) fun m3 => K.nx ρ m3) (K.xc ρ)) (K.xc ρ)
  | .auga o f op e, ρ, m, K => wpE c o ρ m (fun x m1 => getw (tyD m1 x) fun t => c.fld t f = true ∧ getw (fldD m1 x f) fun d => wpE c e ρ m1 (fun y m2 => getw (augI op d y) fun z => tyD m2 x = some t ∧ getw (setFD m2 x f z) fun m3 => K.nx ρ m3) (K.xc ρ)) (K.xc ρ)
  | .aug i op e, ρ, m, K => getw (slot ρ i) fun x => wpE c e ρ m (fun y m1 => getw (augD m1 op x y) fun z => K.nx (put ρ i (some z.1)) z.2) (K.xc ρ)
  | .expr e, ρ, m, K => wpE c e ρ m (fun _ m1 => K.nx ρ m1) (K.xc ρ)
  | .ret e, ρ, m, K => wpE c e ρ m K.rt (K.xc ρ)
  | .ite d a b, ρ, m, K => wpB c d ρ m (fun t m1 => if t = true then wpSs c a ρ m1 K else wpSs c b ρ m1 K) (K.xc ρ)
  | .for_ tg k es body, ρ, m, K => wpEs c es ρ m (fun ds m1 => getw (itD m1 k ds) fun ig =>
      forW ig.2 tg (fun ρ' m2 nx => wpSs c body ρ' m2 { nx := nx, rt := K.rt, bk := K.nx, ct := nx, xc := K.xc }) ig.1 ρ m1 K.nx) (K.xc ρ)
  | .while_ d body, ρ, m, K => ∃ W : Nat → Env0 → MH → Prop, (∃ n, W n ρ m) ∧ ∀ n ρ m, W n ρ m → wpB c d ρ m (fun t m1 =>
      if t = true then wpSs c body ρ m1 { nx := fun ρ' m' => ∃ n', n' < n ∧ W n' ρ' m', rt := K.rt, bk := K.nx, ct := fun ρ' m' => ∃ n', n' < n ∧ W n' ρ' m', xc := K.xc } else K.nx ρ m1) (K.xc ρ)
  | .pass, ρ, m, K => K.nx ρ m
  | .brk, ρ, m, K => K.bk ρ m
  | .cont, ρ, m, K => K.ct ρ m
  | .never, _, _, _ => False
  | .raise f es, ρ, m, K => wpEs c es ρ m (fun ds m1 => getw (c.exn f) fun ns => ds.length = ns.length ∧ K.xc ρ ⟨f, ns.zip ds⟩ m1) (K.xc ρ)
  | .tryx body cs i suite, ρ, m, K => wpSs c body ρ m { nx := K.nx, rt := K.rt, bk := K.bk, ct := K.ct, xc := fun ρ' x m' => getw (subAny c x.c cs) fun b =>
      if b = true then (∀ a : Nat, wpSs (c.heat a) suite (put ρ' i (some (x.d a))) m' { nx := fun ρ2 => K.nx (put ρ2 i none), rt := K.rt, bk := fun ρ2 => K.bk (put ρ2 i none), ct := fun ρ2 => K.ct (put ρ2 i none), xc := fun _ => noX }) else K.xc ρ' x m' }
termination_by structural x => x
def wpSs (c : Cfg) : List St → Env0 → MH → En → Prop
  | [], ρ, m, K => K.nx ρ m
  | s :: r, ρ, m, K => wpS c s ρ m { nx := fun ρ' m' => wpSs c r ρ' m' K, rt := K.rt, bk := K.bk, ct := K.ct, xc := K.xc }
termination_by structural x => x
end
end PT
end
section
set_option linter.all false
set_option maxRecDepth 100000
set_option maxHeartbeats 4000000
/-! PtB: how trees and changing things lie in the layer's heap. -/
namespace PT
open PySem PySem.Spec PyProof.Rows L2

def sGood (s : List Nat) : Prop := s.length ≤ sizeLine ∧ ∀ c ∈ s, c < 0x110000
def mkS (s : List Nat) : Str := ⟨s.toArray⟩
theorem mkS_len (s : List Nat) : (mkS s).length = s.length := by show s.toArray.size = _; simp
theorem mkS_cps (s : List Nat) : (mkS s).cps.toList = s := by show s.toArray.toList = _; simp
theorem mkS_inj {s t : List Nat} (h : mkS s = mkS t) : s = t := by
  have := congrArg (fun z : Str => z.cps.toList) h
  simpa [mkS_cps] using this

def KtAt (K : PySem.W.Frag) (a : Addr) (vs : List V) : Prop :=
  ∃ (o : Obj) (its : Array Value) (n : Nat), K.lookup a = some o ∧ o.cls = .type "tuple" ∧ o.data = .seq its n ∧ its.size ≤ sizeLine ∧ Vals vs its.toList
def KlAt (K : PySem.W.Frag) (a : Addr) (vs : List V) : Prop :=
  ∃ (o : Obj) (its : Array Value) (n : Nat), K.lookup a = some o ∧ o.cls = .type "list" ∧ o.dict = none ∧ o.data = .seq its n ∧ its.size ≤ sizeLine ∧ Vals vs its.toList
def TupAt (K : PySem.W.Frag) (F : Addr → Prop) (H : Hp) (a : Addr) (vs : List V) : Prop := (F a ∧ Rd H a (.tup vs)) ∨ KtAt K a vs
def ScrAt (K : PySem.W.Frag) (F : Addr → Prop) (H : Hp) (a : Addr) (vs : List V) : Prop := (F a ∧ ∃ o, H a = some (.frz o (.lst vs))) ∨ KlAt K a vs
theorem TupAt.sq {K : PySem.W.Frag} {F : Addr → Prop} {H : Hp} {a : Addr} {vs : List V} (h : TupAt K F H a vs) : SqT K H a vs := h.elim (fun z => .inl z.2) .inr
theorem ScrAt.sq {K : PySem.W.Frag} {F : Addr → Prop} {H : Hp} {a : Addr} {vs : List V} (h : ScrAt K F H a vs) : SqL K H a vs := h.elim (fun z => .inl (.inr z.2)) .inr

/-- a key of a dict -/
def keyD : D → Option Key
  | .int i => some (.inl i)
  | .str s => some (.inr (mkS s))
  | _ => none
def keysD : List D → Option (List Key)
  | [] => some []
  | d :: ds => (keyD d).bind fun k => (keysD ds).map (k :: ·)
theorem keysD_cons {d : D} {ds : List D} {ks : List Key} (e : keysD (d :: ds) = some ks) : ∃ k r, keyD d = some k ∧ keysD ds = some r ∧ ks = k :: r := by
  unfold keysD at e
  cases h1 : keyD d with
  | none => rw [h1] at e; cases e
  | some k =>
    cases h2 : keysD ds with
    | none => rw [h1, h2] at e; cases e
    | some r => rw [h1, h2] at e; cases e; exact ⟨k, r, rfl, rfl, rfl⟩
theorem keysD_len : ∀ {ds : List D} {ks : List Key}, keysD ds = some ks → ds.length = ks.length
  | [], _, e => by cases e; rfl
  | d :: ds, ks, e => by
    obtain ⟨k, r, _, h2, rfl⟩ := keysD_cons e
    rw [List.length_cons, List.length_cons, keysD_len h2]
/-- what a class of one's own has -/
structure ClsOk (K : PySem.W.Frag) (C : Addr) : Prop where
  cls : Cls K C
  ha : PySem.W.findIn K (.ref C) "__class__" = some (some (.builtin "object.__class__"))
  hn : PySem.W.specialIn K (.builtin "object.__class__") "__get__" = some (some (.builtin "getset_descriptor.__get__"))
  htk : PySem.W.takesIn K (.builtin "object.__class__") = some true
  hm : PySem.W.mroIn K C (.type "object") = some true
  no : ∀ n ∈ tyNames, PySem.W.kitOne K (.ref C) (.type n) = some false
/-- a caught exception's object, as it stands -/
def exq (a : Addr) (oe : Obj) : HO := .ext fun h => h.get? a = some oe
def XObj (C : Addr) (oe : Obj) : Prop := oe.cls = .ref C ∧ ∃ ws : Array Value, oe.data = .fields ws ∧ ws[2]? = some .none
/-- an exception's fields -/
def XDict (F : Addr → Prop) (H : Hp) : Option Addr → List (Str × V) → Prop
  | none, fs => fs = []
  | some dx, fs => F dx ∧ ∃ fs', H dx = some (.xd fs') ∧ ∀ f v, fs.lookup f = some v → fs'.lookup f = some v
section
variable (K : PySem.W.Frag) (mg : Str → Option Value)
/-- the exception class called c -/
def XcAt (c : String) (C : Addr) : Prop := mg (Str.ofString c) = some (.ref C) ∧ ExcC K C ∧ XfC K C
/-- the class called c -/
def ClsAt (c : String) (C : Addr) : Prop := mg (Str.ofString c) = some (.ref C) ∧ ClsOk K C ∧ tyNames.contains c = false
mutual
/-- the tree d stands for the value v -/
def Rep (F : Addr → Prop) (H : Hp) : D → V → Prop
  | .non, v => v = .non
  | .bl b, v => v = .bl b
  | .int i, v => v = .int i
  | .str s, v => v = .str (mkS s) ∧ sGood s
  | .tup xs, v => ∃ a vs, v = .ref a ∧ TupAt K F H a vs ∧ Reps F H xs vs ∧ xs.length ≤ sizeLine
  | .lst xs, v => ∃ a vs, v = .ref a ∧ F a ∧ H a = some (.lst vs) ∧ Reps F H xs vs ∧ xs.length ≤ sizeLine
  | .scr xs, v => ∃ a vs, v = .ref a ∧ ScrAt K F H a vs ∧ Reps F H xs vs ∧ xs.length ≤ sizeLine
  | .ref a, v => v = .ref a
  | .ty n, v => v = .ty n
  | .gl x, v => ∃ u, mg (Str.ofString x) = some u ∧ RelV v u
  | .dic ks vs, v => ∃ (a : Addr) (ls : List Key) (us : List V), v = .ref a ∧ F a ∧ H a = some (.dK (ls.zip us)) ∧ keysD ks = some ls ∧ Reps F H vs us ∧ ls.length = us.length ∧ ks.length ≤ sizeLine
  | .obj c ns vs, v => ∃ (a C dx : Addr) (us : List V), v = .ref a ∧ F a ∧ ClsAt K mg c C ∧ H a = some (.ins C dx ((ns.map Str.ofString).zip us)) ∧ Reps F H vs us ∧ ns.length = us.length
  | .exc a c ns vs, v => v = .ref a ∧ F a ∧ ∃ (oe : Obj) (C : Addr) (us : List V), H a = some (exq a oe) ∧ XcAt K mg c C ∧ XObj C oe ∧ Reps F H vs us ∧ XDict F H oe.dict ((ns.map Str.ofString).zip us)
def Reps (F : Addr → Prop) (H : Hp) : List D → List V → Prop
  | [], vs => vs = []
  | d :: ds, vs => ∃ v r, vs = v :: r ∧ Rep F H d v ∧ Reps F H ds r
end
/-- what changes, as it lies -/
def MRep (F : Addr → Prop) (H : Hp) (a : Addr) : MO → Prop
  | .lst xs => ∃ vs, H a = some (.lst vs) ∧ Reps K mg F H xs vs ∧ xs.length ≤ sizeLine
  | .dic kvs => ∃ (ls : List Key) (us : List V), H a = some (.dK (ls.zip us)) ∧ keysD (kvs.map (·.1)) = some ls ∧ Reps K mg F H (kvs.map (·.2)) us ∧ kvs.length ≤ sizeLine
  | .ins c fs => ∃ (C dx : Addr) (us : List V), ClsAt K mg c C ∧ H a = some (.ins C dx ((fs.map fun p => Str.ofString p.1).zip us)) ∧ Reps K mg F H (fs.map (·.2)) us
def RelH (m : MH) (F : Addr → Prop) (H : Hp) : Prop := ∀ a o, m a = some o → ¬ F a ∧ MRep K mg F H a o
end
def Imm : HO → Prop
  | .lst _ => True
  | .tup _ => True
  | .frz _ _ => True
  | .dK _ => True
  | .ins _ _ _ => True
  | .ext _ => True
  | .xd _ => True
  | _ => False
/-- what is frozen stays so and has not changed -/
def Ext1 (F : Addr → Prop) (H : Hp) (F' : Addr → Prop) (H' : Hp) : Prop := ∀ a o, F a → H a = some o → Imm o → F' a ∧ H' a = some o
/-- what is neither frozen nor told is as it was -/
def Ext2 (m : MH) (F : Addr → Prop) (H : Hp) (m' : MH) (F' : Addr → Prop) (H' : Hp) : Prop := ∀ a o, ¬ F a → m a = none → H a = some o → ¬ F' a ∧ m' a = none ∧ H' a = some o
theorem Ext1.refl (F : Addr → Prop) (H : Hp) : Ext1 F H F H := fun _ _ a b _ => ⟨a, b⟩
theorem Ext1.trans {F F1 F2 : Addr → Prop} {H H1 H2 : Hp} (a : Ext1 F H F1 H1) (b : Ext1 F1 H1 F2 H2) : Ext1 F H F2 H2 := fun x o h1 h2 h3 =>
  let ⟨h4, h5⟩ := a x o h1 h2 h3
  b x o h4 h5 h3
section
variable {K : PySem.W.Frag} {mg : Str → Option Value} {m m' : MH} {F F' : Addr → Prop} {H H' : Hp}
theorem TupAt.ext {a : Addr} {vs : List V} (e : Ext1 F H F' H') (h : TupAt K F H a vs) : TupAt K F' H' a vs := by
  rcases h with ⟨h1, h2 | ⟨o, h2⟩⟩ | h
  · exact .inl ⟨(e _ _ h1 h2 trivial).1, .inl (e _ _ h1 h2 trivial).2⟩
  · exact .inl ⟨(e _ _ h1 h2 trivial).1, .inr ⟨o, (e _ _ h1 h2 trivial).2⟩⟩
  · exact .inr h
theorem ScrAt.ext {a : Addr} {vs : List V} (e : Ext1 F H F' H') (h : ScrAt K F H a vs) : ScrAt K F' H' a vs := by
  rcases h with ⟨h1, o, h2⟩ | h
  · exact .inl ⟨(e _ _ h1 h2 trivial).1, o, (e _ _ h1 h2 trivial).2⟩
  · exact .inr h
theorem XDict.ext (e : Ext1 F H F' H') {d : Option Addr} {fs : List (Str × V)} (h : XDict F H d fs) : XDict F' H' d fs := by
  cases d with
  | none => exact h
  | some dx =>
    obtain ⟨h1, fs', h2, h3⟩ := h
    have q := e _ _ h1 h2 trivial
    exact ⟨q.1, fs', q.2, h3⟩
mutual
theorem Rep.ext (e : Ext1 F H F' H') : ∀ (d : D) (v : V), Rep K mg F H d v → Rep K mg F' H' d v
  | .non, _, h => h
  | .bl _, _, h => h
  | .int _, _, h => h
  | .str _, _, h => h
  | .tup xs, v, h => by
    obtain ⟨a, vs, h1, h2, h3, h4⟩ := h
    exact ⟨a, vs, h1, h2.ext e, Reps.ext e xs vs h3, h4⟩
  | .lst xs, v, h => by
    obtain ⟨a, vs, h1, h2, h3, h4, h5⟩ := h
    have q := e _ _ h2 h3 trivial
    exact ⟨a, vs, h1, q.1, q.2, Reps.ext e xs vs h4, h5⟩
  | .scr xs, v, h => by
    obtain ⟨a, vs, h1, h2, h3, h4⟩ := h
    exact ⟨a, vs, h1, h2.ext e, Reps.ext e xs vs h3, h4⟩
  | .ref _, _, h => h
  | .ty _, _, h => h
  | .gl _, _, h => h
  | .dic ks xs, v, h => by
    obtain ⟨a, ls, us, h1, h2, h3, h4, h5, h6⟩ := h
    have q := e _ _ h2 h3 trivial
    exact ⟨a, ls, us, h1, q.1, q.2, h4, Reps.ext e xs us h5, h6⟩
  | .obj c ns xs, v, h => by
    obtain ⟨a, C, dx, us, h1, h2, h3, h4, h5, h6⟩ := h
    have q := e _ _ h2 h4 trivial
    exact ⟨a, C, dx, us, h1, q.1, h3, q.2, Reps.ext e xs us h5, h6⟩
  | .exc a c ns xs, v, h => by
    obtain ⟨h1, h2, oe, C, us, h3, h4, h5, h6, h7⟩ := h
    have q := e _ _ h2 h3 trivial
    exact ⟨h1, q.1, oe, C, us, q.2, h4, h5, Reps.ext e xs us h6, h7.ext e⟩
theorem Reps.ext (e : Ext1 F H F' H') : ∀ (ds : List D) (vs : List V), Reps K mg F H ds vs → Reps K mg F' H' ds vs
  | [], _, h => h
  | d :: ds, vs, h => by
    obtain ⟨v, r, h1, h2, h3⟩ := h
    exact ⟨v, r, h1, Rep.ext e d v h2, Reps.ext e ds r h3⟩
end
theorem Reps.len : ∀ {ds : List D} {vs : List V}, Reps K mg F H ds vs → ds.length = vs.length
  | [], _, h => by cases h; rfl
  | d :: ds, vs, h => by
    obtain ⟨v, r, rfl, _, h3⟩ := h
    exact congrArg Nat.succ (Reps.len h3)
theorem Reps.nil : Reps K mg F H [] [] := rfl
theorem Reps.cons {d : D} {ds : List D} {v : V} {vs : List V} (h : Rep K mg F H d v) (t : Reps K mg F H ds vs) : Reps K mg F H (d :: ds) (v :: vs) := ⟨v, vs, rfl, h, t⟩
theorem Reps.app : ∀ {ds es : List D} {vs ws : List V}, Reps K mg F H ds vs → Reps K mg F H es ws → Reps K mg F H (ds ++ es) (vs ++ ws)
  | [], _, _, _, h, t => by cases h; exact t
  | d :: ds, es, vs, ws, h, t => by
    obtain ⟨v, r, rfl, h2, h3⟩ := h
    exact ⟨v, r ++ ws, rfl, h2, Reps.app h3 t⟩
theorem Reps.one {d : D} {v : V} (h : Rep K mg F H d v) : Reps K mg F H [d] [v] := Reps.cons h Reps.nil
theorem Reps.get : ∀ {ds : List D} {vs : List V} {i : Nat} {d : D}, Reps K mg F H ds vs → ds[i]? = some d → ∃ v, vs[i]? = some v ∧ Rep K mg F H d v
  | [], _, _, _, _, e => by simp at e
  | d :: ds, vs, 0, x, h, e => by
    obtain ⟨v, r, rfl, h2, h3⟩ := h
    simp at e; subst e
    exact ⟨v, rfl, h2⟩
  | d :: ds, vs, i + 1, x, h, e => by
    obtain ⟨v, r, rfl, h2, h3⟩ := h
    simp at e
    obtain ⟨w, h4, h5⟩ := Reps.get h3 e
    exact ⟨w, by simpa using h4, h5⟩
theorem Reps.get' : ∀ {ds : List D} {vs : List V} {i : Nat} {v : V}, Reps K mg F H ds vs → vs[i]? = some v → ∃ d, ds[i]? = some d ∧ Rep K mg F H d v := by
  intro ds vs i v h e
  have hl := h.len
  have hi : i < vs.length := (List.getElem?_eq_some_iff.mp e).1
  have hd : ds[i]? = some ds[i] := List.getElem?_eq_getElem (by omega)
  obtain ⟨w, h1, h2⟩ := h.get hd
  rw [e] at h1; cases h1
  exact ⟨_, hd, h2⟩
theorem Reps.take : ∀ {ds : List D} {vs : List V} (n : Nat), Reps K mg F H ds vs → Reps K mg F H (ds.take n) (vs.take n)
  | _, _, 0, _ => rfl
  | [], _, n + 1, h => by cases h; rfl
  | d :: ds, vs, n + 1, h => by
    obtain ⟨v, r, rfl, h2, h3⟩ := h
    exact ⟨v, r.take n, rfl, h2, Reps.take n h3⟩
theorem Reps.drop : ∀ {ds : List D} {vs : List V} (n : Nat), Reps K mg F H ds vs → Reps K mg F H (ds.drop n) (vs.drop n)
  | _, _, 0, h => h
  | [], _, n + 1, h => by cases h; rfl
  | d :: ds, vs, n + 1, h => by
    obtain ⟨v, r, rfl, h2, h3⟩ := h
    exact Reps.drop n h3
theorem Reps.rep : ∀ {ds : List D} {vs : List V} (n : Nat), Reps K mg F H ds vs → Reps K mg F H (List.replicate n ds).flatten (List.replicate n vs).flatten
  | _, _, 0, _ => rfl
  | ds, vs, n + 1, h => by
    rw [List.replicate_succ, List.replicate_succ, List.flatten_cons, List.flatten_cons]
    exact h.app (Reps.rep n h)
theorem Reps.setAt {x : D} {v : V} (q : Rep K mg F H x v) : ∀ {ds : List D} {vs : List V} (i : Nat), Reps K mg F H ds vs → Reps K mg F H (ds.set i x) (vs.set i v)
  | [], _, _, h => by cases h; rfl
  | d :: ds, vs, 0, h => by
    obtain ⟨w, r, rfl, h2, h3⟩ := h
    exact ⟨v, r, rfl, q, h3⟩
  | d :: ds, vs, i + 1, h => by
    obtain ⟨w, r, rfl, h2, h3⟩ := h
    exact ⟨w, r.set i v, rfl, h2, Reps.setAt q i h3⟩
theorem strsOf_cons {d : D} {ds : List D} {ss : List (List Nat)} (e : strsOf (d :: ds) = some ss) : ∃ s ts, d = .str s ∧ strsOf ds = some ts ∧ ss = s :: ts := by
  cases d with
  | str s =>
    have e' : (strsOf ds).map (s :: ·) = some ss := e
    cases q : strsOf ds with
    | none => rw [q] at e'; cases e'
    | some ts => rw [q] at e'; cases e'; exact ⟨s, ts, rfl, rfl, rfl⟩
  | _ => cases e
theorem boolsOf_cons {d : D} {ds : List D} {ss : List Bool} (e : boolsOf (d :: ds) = some ss) : ∃ s ts, d = .bl s ∧ boolsOf ds = some ts ∧ ss = s :: ts := by
  cases d with
  | bl s =>
    have e' : (boolsOf ds).map (s :: ·) = some ss := e
    cases q : boolsOf ds with
    | none => rw [q] at e'; cases e'
    | some ts => rw [q] at e'; cases e'; exact ⟨s, ts, rfl, rfl, rfl⟩
  | _ => cases e
theorem Reps.strs : ∀ {ds : List D} {ss : List (List Nat)} {vs : List V}, Reps K mg F H ds vs → strsOf ds = some ss → vs = (ss.map mkS).map V.str ∧ ∀ s ∈ ss, sGood s := by
  intro ds
  induction ds with
  | nil => intro ss vs h e; cases h; cases e; exact ⟨rfl, fun _ z => nomatch z⟩
  | cons d ds ih =>
    intro ss vs h e
    obtain ⟨s, ts, rfl, e1, rfl⟩ := strsOf_cons e
    obtain ⟨v, r, rfl, ⟨h2, h2'⟩, h3⟩ := h
    obtain ⟨q1, q2⟩ := ih h3 e1
    subst h2 q1
    exact ⟨rfl, fun t ht => (List.mem_cons.mp ht).elim (fun z => by rw [z]; exact h2') (q2 t)⟩
theorem Reps.bools : ∀ {ds : List D} {ss : List Bool} {vs : List V}, Reps K mg F H ds vs → boolsOf ds = some ss → vs = ss.map V.bl := by
  intro ds
  induction ds with
  | nil => intro ss vs h e; cases h; cases e; rfl
  | cons d ds ih =>
    intro ss vs h e
    obtain ⟨s, ts, rfl, e1, rfl⟩ := boolsOf_cons e
    obtain ⟨v, r, rfl, h2, h3⟩ := h
    rw [show v = V.bl s from h2, ih h3 e1]
    rfl
/-- texts put together stay good -/
theorem sGood.app {s t : List Nat} (h : sGood s) (h' : sGood t) (hl : s.length + t.length ≤ sizeLine) : sGood (s ++ t) :=
  ⟨by rw [List.length_append]; exact hl, fun c hc => (List.mem_append.mp hc).elim (h.2 c) (h'.2 c)⟩
theorem sGood.sub {s t : List Nat} (h : sGood s) (hl : t.length ≤ s.length) (hs : ∀ c ∈ t, c ∈ s) : sGood t := ⟨Nat.le_trans hl h.1, fun c hc => h.2 c (hs c hc)⟩

/-! ### new things -/
def addF (F : Addr → Prop) (p : Addr) : Addr → Prop := fun a => a = p ∨ F a
def delF (F : Addr → Prop) (p : Addr) : Addr → Prop := fun a => a ≠ p ∧ F a
theorem ext_add {p : Addr} {o : HO} (hp : H p = none) : Ext1 F H (addF F p) (upd H p o) := fun a u h1 h2 _ => ⟨.inr h1, by rw [upd_ne (ne_of_none h2 hp)]; exact h2⟩
theorem ext_del {p : Addr} {o : HO} (hp : H p = none) : Ext1 F H (delF F p) (upd H p o) := fun a u h1 h2 _ => ⟨⟨ne_of_none h2 hp, h1⟩, by rw [upd_ne (ne_of_none h2 hp)]; exact h2⟩
theorem MRep.ext (e : Ext1 F H F' H') {a : Addr} {o : MO} (hh : H' a = H a) (r : MRep K mg F H a o) : MRep K mg F' H' a o := by
  cases o with
  | lst xs =>
    obtain ⟨vs, h1, h2, h3⟩ := r
    exact ⟨vs, by rw [hh]; exact h1, Reps.ext e xs vs h2, h3⟩
  | dic kvs =>
    obtain ⟨ls, us, h1, h2, h3, h4⟩ := r
    exact ⟨ls, us, by rw [hh]; exact h1, h2, Reps.ext e _ us h3, h4⟩
  | ins c fs =>
    obtain ⟨C, dx, us, h1, h2, h3⟩ := r
    exact ⟨C, dx, us, h1, by rw [hh]; exact h2, Reps.ext e _ us h3⟩
theorem MRep.some {a : Addr} {o : MO} (r : MRep K mg F H a o) : ∃ u, H a = some u := by
  cases o with
  | lst xs => obtain ⟨vs, h1, _⟩ := r; exact ⟨_, h1⟩
  | dic _ => obtain ⟨ls, us, h1, _⟩ := r; exact ⟨_, h1⟩
  | ins _ _ => obtain ⟨C, dx, us, _, h2, _⟩ := r; exact ⟨_, h2⟩
theorem RelH.add {p : Addr} {o : HO} (R : RelH K mg m F H) (hp : H p = none) : RelH K mg m (addF F p) (upd H p o) := fun a u e => by
  obtain ⟨nf, r⟩ := R a u e
  obtain ⟨w, hw⟩ := r.some
  have ne := ne_of_none hw hp
  exact ⟨fun z => z.elim ne nf, r.ext (ext_add hp) (upd_ne ne)⟩
theorem RelH.free (R : RelH K mg m F H) {p : Addr} (hp : H p = none) : m p = none := by
  cases e : m p with
  | none => rfl
  | some o =>
    obtain ⟨w, hw⟩ := (R p o e).2.some
    rw [hp] at hw; cases hw
/-- what comes behind -/
structure Nx (K : PySem.W.Frag) (mg : Str → Option Value) (m : MH) (F : Addr → Prop) (H : Hp) (m' : MH) (F' : Addr → Prop) (H' : Hp) : Prop where
  ext : Ext1 F H F' H'
  kept : Ext2 m F H m' F' H'
  rel : RelH K mg m' F' H'
theorem Nx.trans {m1 m2 : MH} {F1 F2 : Addr → Prop} {H1 H2 : Hp} (a : Nx K mg m F H m1 F1 H1) (b : Nx K mg m1 F1 H1 m2 F2 H2) : Nx K mg m F H m2 F2 H2 :=
  ⟨a.ext.trans b.ext, fun x o h1 h2 h3 => let ⟨g1, g2, g3⟩ := a.kept x o h1 h2 h3; b.kept x o g1 g2 g3, b.rel⟩
theorem Nx.same (R : RelH K mg m F H) : Nx K mg m F H m F H := ⟨.refl _ _, fun _ _ a b c => ⟨a, b, c⟩, R⟩
theorem Nx.add {p : Addr} {o : HO} (R : RelH K mg m F H) (hp : H p = none) : Nx K mg m F H m (addF F p) (upd H p o) :=
  ⟨ext_add hp, fun a u h1 h2 h3 => ⟨fun z => z.elim (ne_of_none h3 hp) h1, h2, by rw [upd_ne (ne_of_none h3 hp)]; exact h3⟩, R.add hp⟩
theorem Nx.newTup (R : RelH K mg m F H) {p : Addr} {xs : List D} {vs : List V} (hp : H p = none) (r : Reps K mg F H xs vs) (hl : xs.length ≤ sizeLine) :
    Nx K mg m F H m (addF F p) (upd H p (.tup vs)) ∧ Rep K mg (addF F p) (upd H p (.tup vs)) (.tup xs) (.ref p) :=
  ⟨.add R hp, p, vs, rfl, .inl ⟨.inl rfl, .inl upd_same⟩, Reps.ext (ext_add hp) _ _ r, hl⟩
theorem Nx.newLst (R : RelH K mg m F H) {p : Addr} {xs : List D} {vs : List V} (hp : H p = none) (r : Reps K mg F H xs vs) (hl : xs.length ≤ sizeLine) :
    Nx K mg m F H m (addF F p) (upd H p (.lst vs)) ∧ Rep K mg (addF F p) (upd H p (.lst vs)) (.lst xs) (.ref p) :=
  ⟨.add R hp, p, vs, rfl, .inl rfl, upd_same, Reps.ext (ext_add hp) _ _ r, hl⟩
/-- a new list that will change -/
theorem Nx.newMut (R : RelH K mg m F H) {p : Addr} {xs : List D} {vs : List V} (hp : H p = none) (r : Reps K mg F H xs vs) (hl : xs.length ≤ sizeLine) :
    Nx K mg m F H (m.set p (.lst xs)) (delF F p) (upd H p (.lst vs)) := by
  refine ⟨ext_del hp, fun a u h1 h2 h3 => ?_, fun a u q => ?_⟩
  · have ne := ne_of_none h3 hp
    exact ⟨fun z => h1 z.2, by rw [MH.set_ne ne]; exact h2, by rw [upd_ne ne]; exact h3⟩
  · by_cases ha : a = p
    · subst ha
      rw [MH.set_same] at q; cases q
      exact ⟨fun z => z.1 rfl, vs, upd_same, Reps.ext (ext_del hp) _ _ r, hl⟩
    · rw [MH.set_ne ha] at q
      exact ⟨fun z => (R a u q).1 z.2, (R a u q).2.ext (ext_del hp) (upd_ne ha)⟩
/-- a list that changes, written -/
theorem Nx.wrLst (R : RelH K mg m F H) {a : Addr} {xs0 xs : List D} {vs : List V} (ha : m a = some (.lst xs0)) (r : Reps K mg F H xs vs) (hl : xs.length ≤ sizeLine) :
    Nx K mg m F H (m.set a (.lst xs)) F (upd H a (.lst vs)) := by
  have nf := (R a _ ha).1
  have e : Ext1 F H F (upd H a (.lst vs)) := fun b u h1 h2 _ => by
    have ne : b ≠ a := fun z => nf (z ▸ h1)
    exact ⟨h1, by rw [upd_ne ne]; exact h2⟩
  refine ⟨e, fun b u h1 h2 h3 => ?_, fun b u q => ?_⟩
  · have ne : b ≠ a := fun z => by rw [z, ha] at h2; cases h2
    exact ⟨h1, by rw [MH.set_ne ne]; exact h2, by rw [upd_ne ne]; exact h3⟩
  · by_cases hb : b = a
    · subst hb
      rw [MH.set_same] at q; cases q
      exact ⟨nf, vs, upd_same, Reps.ext e _ _ r, hl⟩
    · rw [MH.set_ne hb] at q
      exact ⟨(R b u q).1, (R b u q).2.ext e (upd_ne hb)⟩

/-- what changes, written -/
theorem Nx.wr (R : RelH K mg m F H) {a : Addr} {o0 o : MO} {u : HO} (ha : m a = some o0) (r : (∀ d v, Rep K mg F H d v → Rep K mg F (upd H a u) d v) → (∀ ds vs, Reps K mg F H ds vs → Reps K mg F (upd H a u) ds vs) → MRep K mg F (upd H a u) a o) : Nx K mg m F H (m.set a o) F (upd H a u) := by
  have nf := (R a _ ha).1
  have e : Ext1 F H F (upd H a u) := fun b u h1 h2 _ => by
    have ne : b ≠ a := fun z => nf (z ▸ h1)
    exact ⟨h1, by rw [upd_ne ne]; exact h2⟩
  refine ⟨e, fun b u h1 h2 h3 => ?_, fun b u q => ?_⟩
  · have ne : b ≠ a := fun z => by rw [z, ha] at h2; cases h2
    exact ⟨h1, by rw [MH.set_ne ne]; exact h2, by rw [upd_ne ne]; exact h3⟩
  · by_cases hb : b = a
    · subst hb
      rw [MH.set_same] at q; cases q
      exact ⟨nf, r (Rep.ext e) (Reps.ext e)⟩
    · rw [MH.set_ne hb] at q
      exact ⟨(R b u q).1, (R b u q).2.ext e (upd_ne hb)⟩
/-- a new thing that will change -/
theorem Nx.newM (R : RelH K mg m F H) {p : Addr} {o : MO} {u : HO} (hp : H p = none) (r : (∀ ds vs, Reps K mg F H ds vs → Reps K mg (delF F p) (upd H p u) ds vs) → MRep K mg (delF F p) (upd H p u) p o) : Nx K mg m F H (m.set p o) (delF F p) (upd H p u) := by
  refine ⟨ext_del hp, fun a u h1 h2 h3 => ?_, fun a u q => ?_⟩
  · have ne := ne_of_none h3 hp
    exact ⟨fun z => h1 z.2, by rw [MH.set_ne ne]; exact h2, by rw [upd_ne ne]; exact h3⟩
  · by_cases ha : a = p
    · subst ha
      rw [MH.set_same] at q; cases q
      exact ⟨fun z => z.1 rfl, r (Reps.ext (ext_del hp))⟩
    · rw [MH.set_ne ha] at q
      exact ⟨fun z => (R a u q).1 z.2, (R a u q).2.ext (ext_del hp) (upd_ne ha)⟩
theorem ext_shown {a : Addr} : Ext1 F H (addF F a) H := fun b u h1 h2 _ => ⟨.inr h1, h2⟩
/-- what changed will not change any more -/
theorem Nx.frz (R : RelH K mg m F H) {a : Addr} {o : MO} (ha : m a = some o) : Nx K mg m F H (m.del a) (addF F a) H := by
  refine ⟨ext_shown, fun b u h1 h2 h3 => ?_, fun b u q => ?_⟩
  · have ne : b ≠ a := fun z => by rw [z, ha] at h2; cases h2
    exact ⟨fun z => z.elim ne h1, by rw [MH.del_ne ne]; exact h2, h3⟩
  · by_cases hb : b = a
    · subst hb; rw [MH.del_same] at q; cases q
    · rw [MH.del_ne hb] at q
      exact ⟨fun z => z.elim hb (R b u q).1, (R b u q).2.ext ext_shown rfl⟩
theorem zip_len {α β : Type} {xs : List α} {ys : List β} (h : xs.length = ys.length) : (xs.zip ys).length = xs.length := by rw [List.length_zip, h, Nat.min_self]
/-- .. as a tree -/
theorem frz_rep (R : RelH K mg m F H) {d d' : D} {v : V} (r : Rep K mg F H d v) (e : frzD m d = some (d', m')) : ∃ F', Nx K mg m F H m' F' H ∧ Rep K mg F' H d' v := by
  have same : ∀ {d d' : D}, Rep K mg F H d v → some (d, m) = some (d', m') → ∃ F', Nx K mg m F H m' F' H ∧ Rep K mg F' H d' v := by
    intro d d' r e
    cases e
    exact ⟨F, .same R, r⟩
  cases d with
  | ref a =>
    unfold frzD at e
    cases q : m a with
    | none => simp [q] at e
    | some o =>
      have n := Nx.frz R q
      have r' : v = .ref a := r
      subst r'
      cases o with
      | lst xs =>
        simp only [q] at e; cases e
        obtain ⟨vs, h1, h2, h3⟩ := (R a _ q).2
        exact ⟨_, n, a, vs, rfl, .inl rfl, h1, Reps.ext n.ext _ _ h2, h3⟩
      | dic kvs =>
        simp only [q] at e; cases e
        obtain ⟨ls, us, h1, h2, h3, h4⟩ := (R a _ q).2
        have l1 := keysD_len h2
        have l2 := h3.len
        rw [List.length_map] at l1 l2
        exact ⟨_, n, a, ls, us, rfl, .inl rfl, h1, h2, Reps.ext n.ext _ _ h3, by omega, by rw [List.length_map]; exact h4⟩
      | ins c fs =>
        simp only [q] at e; cases e
        obtain ⟨C, dx, us, h1, h2, h3⟩ := (R a _ q).2
        have l2 := h3.len
        exact ⟨_, n, a, C, dx, us, rfl, .inl rfl, h1, by rw [List.map_map]; exact h2, Reps.ext n.ext _ _ h3, by simpa using l2⟩
  | non => exact same r e
  | bl _ => exact same r e
  | int _ => exact same r e
  | str _ => exact same r e
  | tup _ => exact same r e
  | lst _ => exact same r e
  | scr _ => exact same r e
  | exc _ _ _ _ => exact same r e
  | ty _ => exact same r e
  | gl _ => exact same r e
  | dic _ _ => exact same r e
  | obj _ _ _ => exact same r e

/-! ### slots -/
def REnv (K : PySem.W.Frag) (mg : Str → Option Value) (F : Addr → Prop) (H : Hp) (ρ : Env0) (σ : L2.St) : Prop := ρ.length = σ.length ∧ ∀ i d, slot ρ i = some d → ∃ v, σ[i]? = some (some v) ∧ Rep K mg F H d v
theorem REnv.ext {ρ : Env0} {σ : L2.St} (e : Ext1 F H F' H') (h : REnv K mg F H ρ σ) : REnv K mg F' H' ρ σ := ⟨h.1, fun i d q => let ⟨v, h1, h2⟩ := h.2 i d q; ⟨v, h1, Rep.ext e d v h2⟩⟩
theorem slot_put : ∀ (ρ : Env0) (i j : Nat) (v : Option D), slot (put ρ i v) j = if j = i then (if i < ρ.length then v else none) else slot ρ j
  | [], i, j, v => by simp [put, slot]
  | x :: r, 0, 0, v => by simp
  | x :: r, 0, j + 1, v => by simp
  | x :: r, i + 1, 0, v => by simp
  | x :: r, i + 1, j + 1, v => by simp [slot_put r i j v]
theorem put_length : ∀ (ρ : Env0) (i : Nat) (v : Option D), (put ρ i v).length = ρ.length
  | [], _, _ => rfl
  | _ :: _, 0, _ => rfl
  | x :: r, i + 1, v => by simp [put_length r i v]
theorem REnv.put {ρ : Env0} {σ : L2.St} {d : D} {v : V} (h : REnv K mg F H ρ σ) (i : Nat) (r : Rep K mg F H d v) : REnv K mg F H (put ρ i (some d)) (σ.set i (some v)) := by
  refine ⟨by rw [put_length, List.length_set]; exact h.1, fun j x q => ?_⟩
  rw [slot_put] at q
  by_cases hj : j = i
  · subst hj
    rw [if_pos rfl] at q
    split at q
    · cases q
      rename_i hi
      exact ⟨v, by rw [List.getElem?_set_self (by rw [← h.1]; exact hi)], r⟩
    · cases q
  · rw [if_neg hj] at q
    obtain ⟨w, h1, h2⟩ := h.2 j x q
    exact ⟨w, by rw [List.getElem?_set_ne (Ne.symm hj)]; exact h1, h2⟩
theorem REnv.wiped {ρ : Env0} {σ : L2.St} (h : REnv K mg F H ρ σ) : ∀ vs : List Nat, REnv K mg F H (wipes ρ vs) (L2.wipe σ vs)
  | [] => h
  | v :: vs => by
    have ih := REnv.wiped h vs
    refine ⟨by show (PT.put (wipes ρ vs) v none).length = ((L2.wipe σ vs).set v none).length; rw [put_length, List.length_set]; exact ih.1, fun j x q => ?_⟩
    have q' : slot (PT.put (wipes ρ vs) v none) j = some x := q
    rw [slot_put] at q'
    by_cases hj : j = v
    · rw [if_pos hj] at q'
      split at q' <;> cases q'
    · rw [if_neg hj] at q'
      obtain ⟨w, h1, h2⟩ := ih.2 j x q'
      exact ⟨w, by show ((L2.wipe σ vs).set v none)[j]? = _; rw [List.getElem?_set_ne (Ne.symm hj)]; exact h1, h2⟩
end
end PT
end
section
set_option linter.all false
set_option maxRecDepth 100000
set_option maxHeartbeats 4000000
/-! PtCm: a tuple times 1, times 0; list.count of flat things. -/
namespace PT
open PySem PySem.Spec PyProof.Rows L2

theorem tuple_mul1 (l : Addr) (items : Array Value) (n : Nat) (dd : Option Addr) (sl : Array (Option Value)) (u : Tok) :
    Meets (Builtin.«tuple.__mul__» ⟨[.ref l, .int 1 u], []⟩) (fun _ R s => s.heap.get? l = some { cls := .type "tuple", dict := dd, data := .seq items n, slots := sl } ∧ R (.ok (.ret (Value.ref l))) s) :=
  .of_wp fun prog w A R s h => by
    obtain ⟨hp, g, d, tk, os⟩ := s
    obtain ⟨hl, h⟩ := h
    have f1 := AutoSeq1.idx_int
    wp_walk using wpAny_loadPart' hl
    repeat (first
      | (refine wpAny_ite_false (by decide) ?_; wp_walk using wpAny_loadPart' hl)
      | (refine wpAny_ite_true (by rw [show ((1 : Int) == 1) = true from rfl, Bool.or_true] <;> rfl) ?_; wp_walk using wpAny_loadPart' hl))
    exact ⟨_, rfl, h⟩
theorem tuple_mul0 (l : Addr) (items : Array Value) (n : Nat) (dd : Option Addr) (sl : Array (Option Value)) (x : Int) (u : Tok) (c0 : (decide (x < -(2 ^ 63)) || decide (x ≥ 2 ^ 63)) = false) (c1 : (items.isEmpty || x == 1) = false) (c2 : (decide (x ≤ 0) || items.isEmpty) = true) :
    Meets (Builtin.«tuple.__mul__» ⟨[.ref l, .int x u], []⟩) (fun _ R s => s.heap.get? l = some { cls := .type "tuple", dict := dd, data := .seq items n, slots := sl } ∧
      R (.ok (.ret (Value.ref s.heap.objs.size))) { s with heap := s.heap.push { cls := Value.type "tuple", data := Data.seq #[] }, toks := s.toks }) :=
  .of_wp fun prog w A R s h => by
    obtain ⟨hp, g, d, tk, os⟩ := s
    obtain ⟨hl, h⟩ := h
    have f1 := AutoSeq1.idx_int
    wp_walk using wpAny_loadPart' hl
    repeat (first
      | (refine wpAny_ite_false (decide_eq_false (by rw [c0]; exact Bool.false_ne_true)) ?_; wp_walk using wpAny_loadPart' hl)
      | (refine wpAny_ite_false (decide_eq_false (by rw [c1]; exact Bool.false_ne_true)) ?_; wp_walk using wpAny_loadPart' hl)
      | (refine wpAny_ite_true (decide_eq_true c2) ?_; wp_walk using wpAny_loadPart' hl)
      | (refine wpAny_ite_false (decide_eq_false (by decide)) ?_; wp_walk using wpAny_loadPart' hl))
    exact ⟨_, rfl, h⟩
section
variable {X : Cx}
theorem op_rep1 : OpR X (binaryOp .Mult) (fun x y H Q => ∃ l xs, x = .ref l ∧ y = .int 1 ∧ SqT X.K H l xs ∧ Q (.ref l) H) := by
  intro pins s σ H x y v u Q I rx ry h
  obtain ⟨l, xs, rfl, rfl, hT, q⟩ := h
  cases rx
  obtain ⟨t, rfl⟩ := ry
  obtain ⟨its, r, ⟨⟨cls, dd, data, sl⟩, ho, hc, n, hd⟩, hs⟩ := I.tuple hT
  simp only at hc hd
  subst hc hd
  exact wpAny_binaryOp_repeat_ref (T := "tuple") (U := "int") (by decide) ⟨_, ho, rfl⟩ (fun s' => typeIs_int s' 1 t) noFill_tuple_mul F.fills_int_mul F.slot_int_rmul repeat_tuple F.slot_int_index.lookup
    (call_meets F.slot_int_rmul (typeIs_int s 1 t) F.entry_int_rmul (F.args_int_rmul_2 _ _) (int_rmul_tuple 1 t l its.toArray n dd sl)
      ⟨ho, rfl, ⟨_, ho, rfl⟩, call_meets F.slot_tuple_mul ⟨_, ho, rfl⟩ F.entry_tuple_mul (F.args_tuple_mul_2 _ _) (tuple_mul1 l its.toArray n dd sl t) ⟨ho, ⟨.ref l, H, I.tok _, rfl, q⟩⟩⟩)
theorem op_rep0 : OpR X (binaryOp .Mult) (fun x y H Q => ∃ l k xs, x = .ref l ∧ y = .int k ∧ SqT X.K H l xs ∧ xs ≠ [] ∧ -1000000 ≤ k ∧ k ≤ 0 ∧ ∀ p, H p = none → Q (.ref p) (upd H p (.tup []))) := by
  intro pins s σ H x y v u Q I rx ry h
  obtain ⟨l, k, xs, rfl, rfl, hT, hne, h1, h2, q⟩ := h
  cases rx
  obtain ⟨t, rfl⟩ := ry
  obtain ⟨its, r, ⟨⟨cls, dd, data, sl⟩, ho, hc, n, hd⟩, hs⟩ := I.tuple hT
  simp only at hc hd
  subst hc hd
  have hle : its.length = xs.length := r.length.symm
  have hn : its ≠ [] := fun e => hne (by
    rw [e] at hle
    exact List.eq_nil_of_length_eq_zero hle.symm)
  have hi : its.toArray.isEmpty = false := by
    cases its with
    | nil => exact absurd rfl hn
    | cons a b => rfl
  have c0 : (decide (k < -(2 ^ 63)) || decide (k ≥ 2 ^ 63)) = false := by
    rw [decide_eq_false (by omega), decide_eq_false (by omega)] <;> rfl
  have c1 : (its.toArray.isEmpty || k == 1) = false := by
    rw [hi, Bool.false_or]
    exact beq_eq_false_iff_ne.mpr (by omega)
  have c2 : (decide (k ≤ 0) || its.toArray.isEmpty) = true := by
    rw [hi, Bool.or_false]
    exact decide_eq_true h2
  refine wpAny_binaryOp_repeat_ref (T := "tuple") (U := "int") (by decide) ⟨_, ho, rfl⟩ (fun s' => typeIs_int s' k t) noFill_tuple_mul F.fills_int_mul F.slot_int_rmul repeat_tuple F.slot_int_index.lookup
    (call_meets F.slot_int_rmul (typeIs_int s k t) F.entry_int_rmul (F.args_int_rmul_2 _ _) (int_rmul_tuple k t l its.toArray n dd sl)
      ⟨ho, rfl, ⟨_, ho, rfl⟩, call_meets F.slot_tuple_mul ⟨_, ho, rfl⟩ F.entry_tuple_mul (F.args_tuple_mul_2 _ _) (tuple_mul0 l its.toArray n dd sl k t c0 c1 c2) ⟨ho, ?_⟩⟩)
  refine ⟨.ref s.heap.objs.size, _, I.laid (t' := s.toks) (o := .tup []) (fun b ob q => Heap.get?_push_of_some _ q) (Nat.le_refl _) ?_, rfl, q _ (I.hok.fresh (Nat.le_refl _))⟩
  exact ⟨Nat.zero_le _, [], .nil, IsTup.new _ _⟩
/-- list.count, flat items -/
def rCountF (K : PySem.W.Frag) : V → List V → Hp → VK → Prop := fun x xs H Q => ∃ (p : Addr) (ys : List V) (y : V), x = .ref p ∧ xs = [y] ∧ SqL K H p ys ∧ flatV y = true ∧ ys.all flatV = true ∧ Q (.int (ys.countP fun z => eqV z y : Nat)) H
theorem countP_eqU {x : V} : ∀ {xs : List V} {us : List Value}, Vals xs us → xs.all flatV = true → us.countP (eqU x) = xs.countP fun y => eqV y x
  | _, _, .nil, _ => rfl
  | y :: xs, u :: us, .cons r t, f => by
    rw [List.all_cons, Bool.and_eq_true] at f
    rw [List.countP_cons, List.countP_cons, countP_eqU t f.2, eqU_of r f.1]
theorem mt_countF : MtR X "list.count" (rCountF X.K) := by
  intro pins s σ H x xs v us Q I rx rxs h
  obtain ⟨p, ys, y, rfl, rfl, hs, fy, fys, q⟩ := h
  cases rx
  cases rxs with
  | cons ry rt =>
    rename_i uy ut
    cases rt
    obtain ⟨its, rv, ⟨⟨cls, dd, data, sl⟩, n, ho, hc, hdn, hd⟩, hlen⟩ := I.list hs
    simp only at hc hd
    subst hc hd
    refine call_meets PySem.F.slot_list_count ⟨_, ho, rfl⟩ PySem.F.entry_list_count (PySem.F.args_list_count_2 _ _)
      (SeqAt.list_countAt p its.toArray n dd sl uy (eqU y)) ⟨ho, fun u' hu' => mem_eqAt ry fy rv fys u' (by simpa using hu'), ?_⟩
    have ec : its.toArray.toList.countP (eqU y) = ys.countP fun z => eqV z y := countP_eqU rv fys
    refine ⟨.int (ys.countP fun z => eqV z y : Nat), H, I.tok _, ⟨s.toks, ?_⟩, q⟩
    show Value.int ((its.toArray.toList.countP (eqU y) : Nat) : Int) s.toks = Value.int ((ys.countP fun z => eqV z y : Nat) : Int) s.toks
    rw [ec]
end
end PT
end
section
set_option linter.all false
set_option maxRecDepth 100000
set_option maxHeartbeats 4000000
/-! PtC: operators, comparisons, subscripts, calls of built-ins by trees. -/
namespace PT
open PySem PySem.Spec PyProof.Rows L2

def GoQ (K : PySem.W.Frag) (mg : Str → Option Value) (m : MH) (F : Addr → Prop) (H : Hp) (Q0 : QD) (Q : VK) : Prop := ∀ d m' F' v H', Q0 d m' → Nx K mg m F H m' F' H' → Rep K mg F' H' d v → Q v H'
section
variable {K : PySem.W.Frag} {mg : Str → Option Value} {m m1 : MH} {F F1 : Addr → Prop} {H H1 : Hp} {Q0 : QD} {Q : VK}
theorem GoQ.go (g : GoQ K mg m F H Q0 Q) {d : D} {v : V} (q : Q0 d m) (R : RelH K mg m F H) (r : Rep K mg F H d v) : Q v H := g d m F v H q (.same R) r
theorem GoQ.nx (g : GoQ K mg m F H Q0 Q) (n : Nx K mg m F H m1 F1 H1) : GoQ K mg m1 F1 H1 Q0 Q := fun d m' F' v H' q n' r => g d m' F' v H' q (n.trans n') r
theorem mkS_app (s t : List Nat) : mkS s ++ mkS t = mkS (s ++ t) := by
  show PySem.Str.append _ _ = _
  unfold PySem.Str.append mkS
  simp
end
/-- what is asked of two values by their trees -/
def V2 (X : Cx) (f : MH → D → D → Option D) : R2 := fun x y H Q => ∃ m F dx dy Q0, RelH X.K X.mg m F H ∧ Rep X.K X.mg F H dx x ∧ Rep X.K X.mg F H dy y ∧ getw (f m dx dy) (fun z => Q0 z m) ∧ GoQ X.K X.mg m F H Q0 Q
section
variable {X : Cx}
/-- a list's place, to be read -/
theorem rep_lst {m : MH} {F : Addr → Prop} {H : Hp} (R : RelH X.K X.mg m F H) {d : D} {v : V} {xs : List D} (r : Rep X.K X.mg F H d v) (e : lstOf m d = some xs) : ∃ a vs, v = .ref a ∧ SqL X.K H a vs ∧ Reps X.K X.mg F H xs vs ∧ xs.length ≤ sizeLine := by
  cases d with
  | lst ys => cases e; obtain ⟨a, vs, h1, h2, h3, h4, h5⟩ := r; exact ⟨a, vs, h1, .inl (.inl h3), h4, h5⟩
  | scr ys => cases e; obtain ⟨a, vs, h1, h2, h3, h4⟩ := r; exact ⟨a, vs, h1, h2.sq, h3, h4⟩
  | ref a =>
    cases q : m a with
    | none => simp [lstOf, q] at e
    | some o =>
      cases o with
      | lst ys =>
        simp [lstOf, q] at e; subst e
        obtain ⟨vs, h1, h2, h3⟩ := (R a _ q).2
        exact ⟨a, vs, r, .inl (.inl h1), h2, h3⟩
      | dic _ => simp [lstOf, q] at e
      | ins _ _ => simp [lstOf, q] at e
  | non => cases e
  | bl _ => cases e
  | int _ => cases e
  | str _ => cases e
  | tup _ => cases e
  | ty _ => cases e
  | gl _ => cases e
  | dic _ _ => cases e
  | obj _ _ _ => cases e
  | exc _ _ _ _ => cases e
/-- .. one that is tracked as a list -/
theorem cat_lists {pins : List (Addr × Obj)} {s : Shared} {σ : L2.St} {H : Hp} {m : MH} {F : Addr → Prop} {a b : Addr} {xs ys : List D} {vs ws : List V} {v u : Value} {Q0 : QD} {Q : VK} (I : Inv X pins σ H s) (R : RelH X.K X.mg m F H) (ha : H a = some (.lst vs)) (hb : H b = some (.lst ws))
    (rx : RelV (.ref a) v) (ry : RelV (.ref b) u) (hv : Reps X.K X.mg F H xs vs) (hw : Reps X.K X.mg F H ys ws) (hl : xs.length + ys.length ≤ sizeLine) (q : Q0 (.lst (xs ++ ys)) m) (go : GoQ X.K X.mg m F H Q0 Q) :
    wpAny (model X.prog X.w) X.A (binaryOp .Add v u) (EP X pins σ Q) X.xe s := by
  refine op_cat pins s σ H _ _ v u Q I rx ry ⟨a, b, vs, ws, rfl, rfl, ha, hb, by rw [← hv.len, ← hw.len]; exact hl, fun p hp => ?_⟩
  obtain ⟨n, r⟩ := Nx.newLst R hp (hv.app hw) (by rw [List.length_append]; exact hl)
  exact go _ _ _ _ _ q n r
theorem op_addD : OpR X (binaryOp .Add) (V2 X addD) := by
  intro pins s σ H x y v u Q I rx ry h
  obtain ⟨m, F, dx, dy, Q0, R, hx, hy, hw, go⟩ := h
  unfold addD at hw
  split at hw
  · exact op_add pins s σ H _ _ v u Q I rx ry ⟨_, _, hx, hy, go.go hw R rfl⟩
  · split at hw
    · rename_i hl
      obtain ⟨hx, gx⟩ := hx
      obtain ⟨hy, gy⟩ := hy
      exact op_add_str pins s σ H _ _ v u Q I rx ry ⟨_, _, hx, hy, by rw [mkS_len, mkS_len]; exact hl, go.go hw R ⟨by rw [mkS_app], gx.app gy hl⟩⟩
    · exact hw.elim
  · split at hw
    · rename_i xs ys hl
      obtain ⟨a, vs, rfl, ta, ra, la⟩ := hx
      obtain ⟨b, ws, rfl, tb, rb, lb⟩ := hy
      refine op_catA pins s σ H _ _ v u Q I rx ry ⟨a, b, vs, ws, rfl, rfl, ta.sq, tb.sq, by rw [← ra.len, ← rb.len]; exact hl, fun e => ?_, fun _ e => ?_, fun _ _ p hp => ?_⟩
      · subst e
        have e0 : xs = [] := List.eq_nil_of_length_eq_zero ra.len
        subst e0
        exact go.go hw R ⟨b, ws, rfl, tb, rb, lb⟩
      · subst e
        have e0 : ys = [] := List.eq_nil_of_length_eq_zero rb.len
        subst e0
        rw [List.append_nil] at hw
        exact go.go hw R ⟨a, vs, rfl, ta, ra, la⟩
      · obtain ⟨n, r⟩ := Nx.newTup R hp (ra.app rb) (by rw [List.length_append]; exact hl)
        exact go _ _ _ _ _ hw n r
    · exact hw.elim
  · split at hw
    · rename_i hl
      obtain ⟨a, vs, rfl, _, ta, ra, la⟩ := hx
      obtain ⟨b, ws, rfl, _, tb, rb, lb⟩ := hy
      exact cat_lists I R ta tb rx ry ra rb hl hw go
    · exact hw.elim
  · split at hw
    · rename_i xs e
      split at hw
      · rename_i hl
        cases hx
        obtain ⟨b, ws, rfl, _, tb, rb, lb⟩ := hy
        obtain ⟨vs, ta, ra, la⟩ := (R _ _ e).2
        exact cat_lists I R ta tb rx ry ra rb hl hw go
      · exact hw.elim
    · exact hw.elim
  · split at hw
    · rename_i ys e
      split at hw
      · rename_i hl
        cases hy
        obtain ⟨a, vs, rfl, _, ta, ra, la⟩ := hx
        obtain ⟨ws, tb, rb, lb⟩ := (R _ _ e).2
        exact cat_lists I R ta tb rx ry ra rb hl hw go
      · exact hw.elim
    · exact hw.elim
  · exact hw.elim
theorem foldl_mk (s : List Nat) : ∀ n : Nat, (List.replicate n s.toArray).foldl (· ++ ·) #[] = (List.replicate n s).flatten.toArray := by
  have h : ∀ (n : Nat) (acc : Array Nat), (List.replicate n s.toArray).foldl (· ++ ·) acc = acc ++ (List.replicate n s).flatten.toArray := by
    intro n
    induction n with
    | zero => intro acc; simp
    | succ n ih => intro acc; rw [List.replicate_succ, List.foldl_cons, ih, List.replicate_succ, List.flatten_cons]; simp
  intro n
  rw [h]
  simp
theorem sGood.rep {s : List Nat} (g : sGood s) (n : Nat) (h : s.length * n ≤ sizeLine) : sGood (List.replicate n s).flatten := by
  refine ⟨by simpa [Nat.mul_comm] using h, fun c hc => ?_⟩
  obtain ⟨l, hl, hc⟩ := List.mem_flatten.mp hc
  rw [(List.mem_replicate.mp hl).2] at hc
  exact g.2 c hc
theorem op_mulS {pins : List (Addr × Obj)} {s : Shared} {σ : L2.St} {H : Hp} {z : List Nat} {k : Int} {v u : Value} {Q : VK} (I : Inv X pins σ H s) (rx : RelV (.str (mkS z)) v) (ry : RelV (.int k) u) (h0 : -1000000 ≤ k) (h1 : k ≤ 1000000) (hl : z.length * k.toNat ≤ sizeLine)
    (q : Q (.str (mkS (List.replicate k.toNat z).flatten)) H) : wpAny (model X.prog X.w) X.A (binaryOp .Mult v u) (EP X pins σ Q) X.xe s := by
  obtain ⟨t, rfl⟩ := rx
  obtain ⟨t', rfl⟩ := ry
  have hzl : (mkS z).length = z.length := mkS_len z
  have sl : sizeLine = 16777216 := sizeLine_eq
  refine PySem.P.mul_str (by rw [decide_eq_false (by omega), decide_eq_false (by omega)]; rfl) (fun a b => ?_) (fun a b => ?_) ?_
  · rw [Bool.or_eq_false_iff, hzl] at b
    have hz : z.length ≤ z.length * k.toNat := Nat.le_mul_of_pos_right _ (by omega)
    have h2 : (16777216 : Int) ≤ (2 ^ 63 - 1) / k := (Int.le_ediv_iff_mul_le (by omega)).mpr (by omega)
    rw [hzl]
    omega
  · unfold Builtin.Str.tooLong
    rw [hzl]
    exact decide_eq_false (by omega)
  · by_cases c1 : k < 1
    · rw [if_pos c1]
      have e : k.toNat = 0 := by omega
      rw [e] at q
      exact ⟨by decide, ⟨.str (mkS []), H, I.tok _, ⟨_, rfl⟩, q⟩⟩
    · rw [if_neg c1]
      split
      · rename_i c2
        rw [hzl] at c2
        have e : (List.replicate k.toNat z).flatten = z := by
          rcases Bool.or_eq_true_iff.mp c2 with c2 | c2
          · have : k.toNat = 1 := by have := eq_of_beq c2; omega
            rw [this]; simp
          · have e0 : z = [] := List.eq_nil_of_length_eq_zero (eq_of_beq c2)
            subst e0
            apply List.eq_nil_iff_forall_not_mem.mpr
            intro c hc
            obtain ⟨l, hl, hc⟩ := List.mem_flatten.mp hc
            rw [(List.mem_replicate.mp hl).2] at hc
            cases hc
        rw [e] at q
        exact ⟨.str (mkS z), H, I, ⟨_, rfl⟩, q⟩
      · refine ⟨?_, ⟨.str (mkS (List.replicate k.toNat z).flatten), H, I.tok _, ⟨s.toks, ?_⟩, q⟩⟩
        · show _ ≤ _
          unfold mkS
          rw [foldl_mk]
          show (List.replicate k.toNat z).flatten.toArray.size ≤ sizeLine
          rw [List.size_toArray]
          simpa [Nat.mul_comm] using hl
        · unfold mkS
          rw [foldl_mk]
theorem op_mulD : OpR X (binaryOp .Mult) (V2 X fun _ => mulD) := by
  intro pins s σ H x y v u Q I rx ry h
  obtain ⟨m, F, dx, dy, Q0, R, hx, hy, hw, go⟩ := h
  change getw (mulD dx dy) _ at hw
  unfold mulD at hw
  split at hw
  · split at hw
    · rename_i hc
      exact op_mul pins s σ H _ _ v u Q I rx ry ⟨_, _, hx, hy, hc.elim (fun z => .inl ⟨by omega, by omega⟩) (fun z => .inr ⟨by omega, by omega⟩), go.go hw R rfl⟩
    · exact hw.elim
  · split at hw
    · rename_i hc
      obtain ⟨rfl, gx⟩ := hx
      cases hy
      exact op_mulS I rx ry hc.1 hc.2.1 hc.2.2 (go.go hw R ⟨rfl, gx.rep _ hc.2.2⟩)
    · exact hw.elim
  · split at hw
    · rename_i xs k hc
      obtain ⟨h1, h2, h3, h4⟩ := hc
      obtain ⟨a, vs, rfl, ta, ra, la⟩ := hx
      have hlen := ra.len
      cases hy
      have hne : vs ≠ [] := fun e => by
        rw [e] at hlen; simp at hlen; rw [hlen] at h4; simp at h4
      rcases Int.lt_trichotomy k 1 with hk | hk | hk
      · refine op_rep0 pins s σ H _ _ v u Q I rx ry ⟨a, k, vs, rfl, rfl, ta.sq, hne, h1, by omega, fun p hp => ?_⟩
        have e0 : k.toNat = 0 := by omega
        rw [e0] at hw
        obtain ⟨n, r⟩ := Nx.newTup (xs := []) (vs := []) R hp rfl (Nat.zero_le _)
        exact go _ _ _ _ _ hw n r
      · subst hk
        refine op_rep1 pins s σ H _ _ v u Q I rx ry ⟨a, vs, rfl, rfl, ta.sq, ?_⟩
        have e1 : (List.replicate (Int.toNat 1) xs).flatten = xs := by simp
        rw [e1] at hw
        exact go.go hw R ⟨a, vs, rfl, ta, ra, la⟩
      · refine op_repT pins s σ H _ _ v u Q I rx ry ⟨a, k, vs, rfl, rfl, ta.sq, hne, by omega, h2, by omega, fun p hp => ?_⟩
        obtain ⟨n, r⟩ := Nx.newTup R hp (ra.rep k.toNat) (by
          have a1 : k.toNat * xs.length ≤ 1000 * 1000 := Nat.mul_le_mul (by omega) h3
          have sl : sizeLine = 16777216 := sizeLine_eq
          simp
          omega)
        exact go _ _ _ _ _ hw n r
    · exact hw.elim
  · split at hw
    · rename_i xs k hc
      obtain ⟨h1, h2, h3⟩ := hc
      obtain ⟨a, vs, rfl, fa, ta, ra, la⟩ := hx
      have hlen := ra.len
      cases hy
      refine op_rep pins s σ H _ _ v u Q I rx ry ⟨a, k, vs, rfl, rfl, ta, by omega, by omega, by rw [← hlen]; exact h3, fun p hp => ?_⟩
      obtain ⟨n, r⟩ := Nx.newLst R hp (ra.rep k.toNat) (by rw [PyProof.Rows.lm_len_rep_flat, Nat.mul_comm]; exact h3)
      exact go _ _ _ _ _ hw n r
    · exact hw.elim
  · exact hw.elim
def bopOf : BOp → Operator
  | .add => .Add | .sub => .Sub | .mul => .Mult | .fdiv => .FloorDiv | .mod => .Mod | .pow => .Pow
theorem op_binD (op : BOp) : OpR X (binaryOp (bopOf op)) (V2 X fun m => binD m op) := by
  cases op with
  | add => exact op_addD
  | mul => exact op_mulD
  | sub =>
    intro pins s σ H x y v u Q I rx ry h
    obtain ⟨m, F, dx, dy, Q0, R, hx, hy, hw, go⟩ := h
    change getw (subD dx dy) _ at hw
    unfold subD at hw
    split at hw
    · exact op_sub pins s σ H _ _ v u Q I rx ry ⟨_, _, hx, hy, go.go hw R rfl⟩
    · exact hw.elim
  | fdiv =>
    intro pins s σ H x y v u Q I rx ry h
    obtain ⟨m, F, dx, dy, Q0, R, hx, hy, hw, go⟩ := h
    change getw (fdivD dx dy) _ at hw
    unfold fdivD at hw
    split at hw
    · split at hw
      · rename_i hc
        exact op_fdiv pins s σ H _ _ v u Q I rx ry ⟨_, _, hx, hy, hc, go.go hw R rfl⟩
      · exact hw.elim
    · exact hw.elim
  | mod =>
    intro pins s σ H x y v u Q I rx ry h
    obtain ⟨m, F, dx, dy, Q0, R, hx, hy, hw, go⟩ := h
    change getw (modD dx dy) _ at hw
    unfold modD at hw
    split at hw
    · split at hw
      · rename_i hc
        exact op_mod pins s σ H _ _ v u Q I rx ry ⟨_, _, hx, hy, hc, go.go hw R rfl⟩
      · exact hw.elim
    · exact hw.elim
  | pow =>
    intro pins s σ H x y v u Q I rx ry h
    obtain ⟨m, F, dx, dy, Q0, R, hx, hy, hw, go⟩ := h
    change getw (powD dx dy) _ at hw
    unfold powD at hw
    split at hw
    · split at hw
      · rename_i hc
        exact op_pow pins s σ H _ _ v u Q I rx ry ⟨_, _, hx, hy, ⟨hc.1, by omega, by omega⟩, go.go hw R rfl⟩
      · exact hw.elim
    · exact hw.elim
end
end PT
end
section
set_option linter.all false
set_option maxRecDepth 100000
set_option maxHeartbeats 4000000
/-! PtD: comparisons, truth, subscripts, slices by trees. -/
namespace PT
open PySem PySem.Spec PyProof.Rows L2

mutual
theorem depP : ∀ d : D, d.toP.depth = d.dep
  | .non => rfl | .bl _ => rfl | .int _ => rfl | .str _ => rfl | .ref _ => rfl | .ty _ => rfl | .gl _ => rfl | .dic _ _ => rfl | .obj _ _ _ => rfl | .exc _ _ _ _ => rfl
  | .tup xs => by rw [D.toP, PyData.depth, D.dep, depPs xs]
  | .lst xs => by rw [D.toP, PyData.depth, D.dep, depPs xs]
  | .scr xs => by rw [D.toP, PyData.depth, D.dep, depPs xs]
theorem depPs : ∀ ds : List D, PyData.depthAll (D.toPs ds) = D.deps ds
  | [] => rfl
  | d :: ds => by rw [D.toPs, PyData.depthAll, D.deps, depP d, depPs ds]
end
theorem str_beq (s t : List Nat) : ((⟨s.toArray⟩ : Str) == ⟨t.toArray⟩) = (s == t) := by
  by_cases h : s = t
  · subst h; simp
  · have h' : ¬ (⟨s.toArray⟩ : Str) = ⟨t.toArray⟩ := fun e => h (mkS_inj e)
    rw [beq_eq_false_iff_ne.mpr h, beq_eq_false_iff_ne.mpr h']
mutual
theorem eqvP : ∀ d e : D, d.data = true → e.data = true → PyData.eqv d.toP e.toP = d.eqv e
  | .ref _, _, h, _ => nomatch h
  | .ty _, _, h, _ => nomatch h
  | .gl _, _, h, _ => nomatch h
  | .dic _ _, _, h, _ => nomatch h
  | .obj _ _ _, _, h, _ => nomatch h
  | .exc _ _ _ _, _, h, _ => nomatch h
  | d, .dic _ _, _, h => nomatch h
  | d, .obj _ _ _, _, h => nomatch h
  | d, .exc _ _ _ _, _, h => nomatch h
  | d, .ref _, _, h => nomatch h
  | d, .ty _, _, h => nomatch h
  | d, .gl _, _, h => nomatch h
  | .non, e, _, h' => by cases e <;> first | rfl | cases h'
  | .bl b, e, _, h' => by cases e <;> first | rfl | cases h'
  | .int i, e, _, h' => by cases e <;> first | rfl | cases h'
  | .str s, e, _, h' => by
    cases e <;> first | rfl | exact str_beq _ _ | cases h'
  | .tup xs, e, h, h' => by
    cases e <;> first | rfl | exact eqvPs _ _ h h' | cases h'
  | .lst xs, e, h, h' => by
    cases e <;> first | rfl | exact eqvPs _ _ h h' | cases h'
  | .scr xs, e, h, h' => by
    cases e <;> first | rfl | exact eqvPs _ _ h h' | cases h'
theorem eqvPs : ∀ ds es : List D, D.datas ds = true → D.datas es = true → PyData.eqvAll (D.toPs ds) (D.toPs es) = D.eqvs ds es
  | [], [], _, _ => rfl
  | [], _ :: _, _, _ => rfl
  | _ :: _, [], _, _ => rfl
  | d :: ds, e :: es, h, h' => by
    rw [D.datas, Bool.and_eq_true] at h h'
    rw [D.toPs, D.toPs, PyData.eqvAll, D.eqvs, eqvP d e h.1 h'.1, eqvPs ds es h.2 h'.2]
end
section
variable {K : PySem.W.Frag} {mg : Str → Option Value} {m : MH} {F : Addr → Prop} {H : Hp}
mutual
theorem dpOf : ∀ (d : D) (v : V), d.data = true → Rep K mg F H d v → Dp K H v d.toP
  | .ref _, _, h, _ => nomatch h
  | .ty _, _, h, _ => nomatch h
  | .gl _, _, h, _ => nomatch h
  | .dic _ _, _, h, _ => nomatch h
  | .obj _ _ _, _, h, _ => nomatch h
  | .exc _ _ _ _, _, h, _ => nomatch h
  | .non, v, _, r => by cases r; exact .non
  | .bl b, v, _, r => by cases r; exact .bl b
  | .int b, v, _, r => by cases r; exact .int b
  | .str s, v, _, r => by obtain ⟨rfl, _⟩ := r; exact .str _
  | .tup xs, v, h, r => by
    obtain ⟨a, vs, rfl, t, q, _⟩ := r
    exact .tup t.sq (dpsOf xs vs h q)
  | .lst xs, v, h, r => by
    obtain ⟨a, vs, rfl, _, t, q, _⟩ := r
    exact .lst (.inl (.inl t)) (dpsOf xs vs h q)
  | .scr xs, v, h, r => by
    obtain ⟨a, vs, rfl, t, q, _⟩ := r
    exact .lst t.sq (dpsOf xs vs h q)
theorem dpsOf : ∀ (ds : List D) (vs : List V), D.datas ds = true → Reps K mg F H ds vs → DpAll K H vs (D.toPs ds)
  | [], vs, _, r => by cases r; exact .nil
  | d :: ds, vs, h, r => by
    rw [D.datas, Bool.and_eq_true] at h
    obtain ⟨v, w, rfl, r1, r2⟩ := r
    exact .cons (dpOf d v h.1 r1) (dpsOf ds w h.2 r2)
end
theorem strOk_mk {s : List Nat} (g : sGood s) : PyData.strOk ⟨s.toArray⟩ = true := by
  unfold PyData.strOk
  rw [Array.all_eq_true]
  intro i hi
  have hi' : i < s.length := by simpa using hi
  simpa using g.2 (s[i]) (List.getElem_mem hi')
mutual
theorem layOf : ∀ (d : D) (v : V), Rep K mg F H d v → d.toP.canLay0 = true
  | .non, _, _ => rfl | .bl _, _, _ => rfl | .int _, _, _ => rfl | .ref _, _, _ => rfl | .ty _, _, _ => rfl | .gl _, _, _ => rfl | .dic _ _, _, _ => rfl | .obj _ _ _, _, _ => rfl | .exc _ _ _ _, _, _ => rfl
  | .str s, v, r => strOk_mk r.2
  | .tup xs, v, r => by obtain ⟨a, vs, _, _, q, _⟩ := r; exact laysOf xs vs q
  | .lst xs, v, r => by obtain ⟨a, vs, _, _, _, q, _⟩ := r; exact laysOf xs vs q
  | .scr xs, v, r => by obtain ⟨a, vs, _, _, q, _⟩ := r; exact laysOf xs vs q
theorem laysOf : ∀ (ds : List D) (vs : List V), Reps K mg F H ds vs → PyData.canLayAll0 (D.toPs ds) = true
  | [], _, _ => rfl
  | d :: ds, vs, r => by
    obtain ⟨v, w, _, r1, r2⟩ := r
    rw [D.toPs, PyData.canLayAll0, layOf d v r1, laysOf ds w r2]
    rfl
end
theorem shapedOf {d : D} {v : V} (r : Rep K mg F H d v) (h : d.dep ≤ 60) : SeqAt.shaped d.toP = true := by
  unfold SeqAt.shaped
  rw [layOf d v r, depP]
  simp
  omega
theorem repRes {d : D} {v : V} (R : RelH K mg m F H) (r : Rep K mg F H d v) (hd : (res m d).data = true) : Dp K H v (res m d).toP ∧ ((res m d).dep ≤ 60 → SeqAt.shaped (res m d).toP = true) := by
  cases d with
  | ref a =>
    cases q : m a with
    | none => rw [res, q] at hd; cases hd
    | some o =>
      cases o with
      | dic _ => rw [res, q] at hd; cases hd
      | ins _ _ => rw [res, q] at hd; cases hd
      | lst xs =>
        have e : res m (.ref a) = .lst xs := by rw [res, q]
        rw [e] at hd ⊢
        obtain ⟨vs, h1, h2, h3⟩ := (R a _ q).2
        cases r
        refine ⟨.lst (.inl (.inl h1)) (dpsOf xs vs hd h2), fun h => ?_⟩
        unfold SeqAt.shaped
        rw [depP]
        simp only [Bool.and_eq_true, decide_eq_true_eq]
        exact ⟨laysOf xs vs h2, by omega⟩
  | _ => exact ⟨dpOf _ v hd r, shapedOf r⟩
end
section
variable {X : Cx}
theorem op_eqDD (hu : X.A.units + 64 < cLine) : OpR X (compareOp .Eq) (V2 X fun m x y => (eqD m x y).map .bl) := by
  intro pins s σ H x y v u Q I rx ry h
  obtain ⟨m, F, dx, dy, Q0, R, hx, hy, hw, go⟩ := h
  change getw ((eqD m dx dy).map D.bl) _ at hw
  unfold eqD at hw
  split at hw
  · rename_i hc
    simp only [Bool.and_eq_true, decide_eq_true_eq] at hc
    obtain ⟨⟨⟨h1, h2⟩, h3⟩, h4⟩ := hc
    obtain ⟨p1, q1⟩ := repRes R hx h1
    obtain ⟨p2, q2⟩ := repRes R hy h2
    exact op_eqD hu pins s σ H _ _ v u Q I rx ry ⟨_, _, p1, p2, q1 h3, q2 h4, by rw [eqvP _ _ h1 h2]; exact go.go hw R rfl⟩
  · exact hw.elim
theorem op_neDD (hu : X.A.units + 64 < cLine) : OpR X (compareOp .NotEq) (V2 X fun m x y => ((eqD m x y).map Bool.not).map .bl) := by
  intro pins s σ H x y v u Q I rx ry h
  obtain ⟨m, F, dx, dy, Q0, R, hx, hy, hw, go⟩ := h
  change getw (((eqD m dx dy).map Bool.not).map D.bl) _ at hw
  unfold eqD at hw
  split at hw
  · rename_i hc
    simp only [Bool.and_eq_true, decide_eq_true_eq] at hc
    obtain ⟨⟨⟨h1, h2⟩, h3⟩, h4⟩ := hc
    obtain ⟨p1, q1⟩ := repRes R hx h1
    obtain ⟨p2, q2⟩ := repRes R hy h2
    exact op_neD hu pins s σ H _ _ v u Q I rx ry ⟨_, _, p1, p2, q1 h3, q2 h4, by rw [eqvP _ _ h1 h2]; exact go.go hw R rfl⟩
  · exact hw.elim
/-- an order on ints and on texts -/
theorem op_ordD {op : CmpOp} {p : Int → Int → Bool} {q : List Nat → List Nat → Bool} (hi : OpR X (compareOp op) (rI0 fun i j => .bl (p i j)))
    (hs : OpR X (compareOp op) (fun x y H Q => ∃ i j, x = .str i ∧ y = .str j ∧ Q (.bl (q i.cps.toList j.cps.toList)) H)) : OpR X (compareOp op) (V2 X fun _ x y => (ordD p q x y).map .bl) := by
  intro pins s σ H x y v u Q I rx ry h
  obtain ⟨m, F, dx, dy, Q0, R, hx, hy, hw, go⟩ := h
  change getw ((ordD p q dx dy).map D.bl) _ at hw
  unfold ordD at hw
  split at hw
  · exact hi pins s σ H _ _ v u Q I rx ry ⟨_, _, hx, hy, go.go hw R rfl⟩
  · exact hs pins s σ H _ _ v u Q I rx ry ⟨_, _, hx.1, hy.1, by rw [mkS_cps, mkS_cps]; exact go.go hw R rfl⟩
  · exact hw.elim
theorem rep_non {K : PySem.W.Frag} {mg : Str → Option Value} {F : Addr → Prop} {H : Hp} {d : D} {v : V} {b : Bool} (r : Rep K mg F H d v) (e : isN d = some b) : decide (v = .non) = b := by
  cases d with
  | non => cases r; cases e; rfl
  | gl x => cases e
  | str s => obtain ⟨rfl, _⟩ := r; cases e; rfl
  | tup xs => obtain ⟨a, vs, rfl, _⟩ := r; cases e; rfl
  | lst xs => obtain ⟨a, vs, rfl, _⟩ := r; cases e; rfl
  | scr xs => obtain ⟨a, vs, rfl, _⟩ := r; cases e; rfl
  | bl b => cases r; cases e; rfl
  | int b => cases r; cases e; rfl
  | ref b => cases r; cases e; rfl
  | ty b => cases r; cases e; rfl
  | dic _ _ => obtain ⟨a, ls, us, rfl, _⟩ := r; cases e; rfl
  | obj _ _ _ => obtain ⟨a, C, dx, us, rfl, _⟩ := r; cases e; rfl
  | exc _ _ _ _ => obtain ⟨rfl, _⟩ := r; cases e; rfl
theorem isD_rep {K : PySem.W.Frag} {mg : Str → Option Value} {m : MH} {F : Addr → Prop} {H : Hp} {d e : D} {v w : V} {b : Bool} (r : Rep K mg F H d v) (r' : Rep K mg F H e w) (h : isD m d e = some b) :
    (w = .non ∧ decide (v = .non) = b) ∨ ∃ x y : Bool, v = .bl x ∧ w = .bl y ∧ decide (x = y) = b := by
  unfold isD at h
  split at h
  · cases r'
    exact .inl ⟨rfl, rep_non r h⟩
  · cases r
    cases r'
    cases h
    exact .inr ⟨_, _, rfl, rfl, by rw [Bool.beq_eq_decide_eq]⟩
  · cases h
theorem op_isDD : OpR X (compareOp .Is) (V2 X fun m x y => (isD m x y).map .bl) := by
  intro pins s σ H x y v u Q I rx ry h
  obtain ⟨m, F, dx, dy, Q0, R, hx, hy, hw, go⟩ := h
  cases q : isD m dx dy with
  | none => simp only [q] at hw; exact hw.elim
  | some b =>
    simp only [q] at hw
    rcases isD_rep hx hy q with ⟨e1, e2⟩ | ⟨a, c, e1, e2, e3⟩
    · exact op_isN pins s σ H _ _ v u Q I rx ry ⟨e1, go.go hw R (by rw [e2]; rfl)⟩
    · exact op_isBl pins s σ H _ _ v u Q I rx ry ⟨a, c, e1, e2, go.go hw R (by rw [e3]; rfl)⟩
theorem op_isnDD : OpR X (compareOp .IsNot) (V2 X fun m x y => ((isD m x y).map Bool.not).map .bl) := by
  intro pins s σ H x y v u Q I rx ry h
  obtain ⟨m, F, dx, dy, Q0, R, hx, hy, hw, go⟩ := h
  cases q : isD m dx dy with
  | none => simp only [q] at hw; exact hw.elim
  | some b =>
    simp only [q] at hw
    rcases isD_rep hx hy q with ⟨e1, e2⟩ | ⟨a, c, e1, e2, e3⟩
    · exact op_notN pins s σ H _ _ v u Q I rx ry ⟨e1, go.go hw R (by rw [e2]; rfl)⟩
    · exact op_notBl pins s σ H _ _ v u Q I rx ry ⟨a, c, e1, e2, go.go hw R (by rw [e3]; rfl)⟩
/-! ### in -/
theorem flat_rep {K : PySem.W.Frag} {mg : Str → Option Value} {F : Addr → Prop} {H : Hp} {d : D} {v : V} (h : d.flat = true) (r : Rep K mg F H d v) : flatV v = true := by
  cases d with
  | non => cases r; rfl
  | str s => obtain ⟨rfl, _⟩ := r; rfl
  | bl b => cases r; rfl
  | int b => cases r; rfl
  | _ => cases h
theorem flat_eqv {K : PySem.W.Frag} {mg : Str → Option Value} {F : Addr → Prop} {H : Hp} {d e : D} {v w : V} (h : d.flat = true) (h' : e.flat = true) (r : Rep K mg F H d v) (r' : Rep K mg F H e w) : eqV v w = d.eqv e := by
  cases d with
  | non => cases r; cases e <;> first | (cases r'; rfl) | (obtain ⟨rfl, _⟩ := r'; rfl) | cases h'
  | bl b => cases r; cases e <;> first | (cases r'; rfl) | (obtain ⟨rfl, _⟩ := r'; rfl) | cases h'
  | int b => cases r; cases e <;> first | (cases r'; rfl) | (obtain ⟨rfl, _⟩ := r'; rfl) | cases h'
  | str s =>
    obtain ⟨rfl, _⟩ := r
    cases e <;> first | (cases r'; rfl) | (obtain ⟨rfl, _⟩ := r'; exact str_beq _ _) | cases h'
  | _ => cases h
theorem flats_rep {K : PySem.W.Frag} {mg : Str → Option Value} {F : Addr → Prop} {H : Hp} {x : D} {v : V} (hx : x.flat = true) (rx : Rep K mg F H x v) : ∀ {ds : List D} {vs : List V}, ds.all D.flat = true → Reps K mg F H ds vs → vs.all flatV = true ∧ inV v vs = ds.any fun y => y.eqv x
  | [], _, _, r => by cases r; exact ⟨rfl, rfl⟩
  | d :: ds, vs, h, r => by
    obtain ⟨w, q, rfl, r1, r2⟩ := r
    rw [List.all_cons, Bool.and_eq_true] at h
    obtain ⟨h1, h2⟩ := flats_rep hx rx h.2 r2
    refine ⟨by rw [List.all_cons, flat_rep h.1 r1, h1]; rfl, ?_⟩
    show (eqV w v || inV v q) = _
    rw [flat_eqv h.1 hx r1 rx, h2, List.any_cons]
/-- what in asks of the values -/
def InAt (K : PySem.W.Frag) (H : Hp) (x y : V) (b : Bool) : Prop :=
  (∃ (c : Nat) (z : Str), x = .str ⟨#[c]⟩ ∧ y = .str z ∧ decide (c ∈ z.cps.toList) = b) ∨
  ∃ p xs, y = .ref p ∧ (SqL K H p xs ∨ SqT K H p xs) ∧ flatV x = true ∧ xs.all flatV = true ∧ inV x xs = b
theorem inSeq_rep {K : PySem.W.Frag} {mg : Str → Option Value} {F : Addr → Prop} {H : Hp} {x : D} {v y : V} {b : Bool} (rx : Rep K mg F H x v) {xs : List D} {a : Addr} {vs : List V} (e1 : y = .ref a) (e2 : SqL K H a vs ∨ SqT K H a vs) (e3 : Reps K mg F H xs vs)
    (h : inSeq x xs = some b) : InAt K H v y b := by
  unfold inSeq at h
  split at h
  · rename_i hc
    rw [Bool.and_eq_true] at hc
    obtain ⟨f1, f2⟩ := flats_rep hc.1 rx hc.2 e3
    cases h
    exact .inr ⟨a, vs, e1, e2, flat_rep hc.1 rx, f1, f2⟩
  · cases h
theorem inD_rep {K : PySem.W.Frag} {mg : Str → Option Value} {m : MH} {F : Addr → Prop} {H : Hp} {x y : D} {v w : V} {b : Bool} (R : RelH K mg m F H) (rx : Rep K mg F H x v) (ry : Rep K mg F H y w) (h : inD m x y = some b) : InAt K H v w b := by
  unfold inD at h
  split at h
  · obtain ⟨rfl, g1⟩ := rx
    obtain ⟨rfl, g2⟩ := ry
    rename_i c z
    cases h
    exact .inl ⟨c, mkS z, rfl, rfl, by rw [mkS_cps]; simp⟩
  · obtain ⟨a, vs, e, t, r, _⟩ := ry
    exact inSeq_rep rx e (.inr t.sq) r h
  · obtain ⟨a, vs, e, _, t, r, _⟩ := ry
    exact inSeq_rep rx e (.inl (.inl (.inl t))) r h
  · split at h
    · rename_i q
      obtain ⟨vs, t, r, _⟩ := (R _ _ q).2
      exact inSeq_rep rx ry (.inl (.inl (.inl t))) r h
    · cases h
  · cases h
theorem op_inDD : OpR X (compareOp .In) (V2 X fun m x y => (inD m x y).map .bl) := by
  intro pins s σ H x y v u Q I rx ry h
  obtain ⟨m, F, dx, dy, Q0, R, hx, hy, hw, go⟩ := h
  cases q : inD m dx dy with
  | none => simp only [q] at hw; exact hw.elim
  | some b =>
    simp only [q] at hw
    have fin := go.go hw R (v := .bl b) rfl
    rcases inD_rep R hx hy q with ⟨c, z, e1, e2, e3⟩ | ⟨p, xs, e1, e2, e3, e4, e5⟩
    · exact op_in_sign pins s σ H _ _ v u Q I rx ry ⟨c, z, e1, e2, by rw [e3]; exact fin⟩
    · exact op_in_seq pins s σ H _ _ v u Q I rx ry ⟨p, xs, e1, e2, e3, e4, by rw [e5]; exact fin⟩
theorem op_ninDD : OpR X (compareOp .NotIn) (V2 X fun m x y => ((inD m x y).map Bool.not).map .bl) := by
  intro pins s σ H x y v u Q I rx ry h
  obtain ⟨m, F, dx, dy, Q0, R, hx, hy, hw, go⟩ := h
  cases q : inD m dx dy with
  | none => simp only [q] at hw; exact hw.elim
  | some b =>
    simp only [q] at hw
    have fin := go.go hw R (v := .bl (!b)) rfl
    rcases inD_rep R hx hy q with ⟨c, z, e1, e2, e3⟩ | ⟨p, xs, e1, e2, e3, e4, e5⟩
    · exact op_notIn_sign pins s σ H _ _ v u Q I rx ry ⟨c, z, e1, e2, by rw [e3]; exact fin⟩
    · exact op_notIn_seq pins s σ H _ _ v u Q I rx ry ⟨p, xs, e1, e2, e3, e4, by rw [e5]; exact fin⟩
def copOf : COp → CmpOp
  | .eq => .Eq | .ne => .NotEq | .lt => .Lt | .le => .LtE | .gt => .Gt | .ge => .GtE | .is_ => .Is | .isn => .IsNot | .in_ => .In | .nin => .NotIn
theorem op_cmpD (hu : X.A.units + 64 < cLine) (op : COp) : OpR X (compareOp (copOf op)) (V2 X fun m x y => (cmpD m op x y).map .bl) := by
  cases op with
  | eq => exact op_eqDD hu
  | ne => exact op_neDD hu
  | lt => exact op_ordD op_lt op_lt_str
  | le => exact op_ordD op_le op_le_str
  | gt => exact op_ordD op_gt op_gt_str
  | ge => exact op_ordD op_ge op_ge_str
  | is_ => exact op_isDD
  | isn => exact op_isnDD
  | in_ => exact op_inDD
  | nin => exact op_ninDD
end
end PT
end
section
set_option linter.all false
set_option maxRecDepth 100000
set_option maxHeartbeats 4000000
/-! PtE: truth, subscripts, slices, built-in functions and methods by trees. -/
namespace PT
open PySem PySem.Spec PyProof.Rows L2

section
variable {X : Cx}
theorem rep_seq {m : MH} {F : Addr → Prop} {H : Hp} (R : RelH X.K X.mg m F H) {d : D} {v : V} {xs : List D} (r : Rep X.K X.mg F H d v) (e : seqOf m d = some xs) : ∃ a vs, v = .ref a ∧ (SqL X.K H a vs ∨ SqT X.K H a vs) ∧ Reps X.K X.mg F H xs vs ∧ xs.length ≤ sizeLine := by
  cases d with
  | tup ys => cases e; obtain ⟨a, vs, h1, h2, h3, h4⟩ := r; exact ⟨a, vs, h1, .inr h2.sq, h3, h4⟩
  | _ => obtain ⟨a, vs, h1, h2, h3, h4⟩ := rep_lst R r e; exact ⟨a, vs, h1, .inl h2, h3, h4⟩
/-- truth -/
theorem truD_rep {K : PySem.W.Frag} {mg : Str → Option Value} {m : MH} {F : Addr → Prop} {H : Hp} {d : D} {v : V} {b : Bool} (R : RelH K mg m F H) (r : Rep K mg F H d v) (e : truD m d = some b) : TruV K v H b := by
  cases d with
  | non => cases r; cases e; rfl
  | bl k => cases r; cases e; rfl
  | int i => cases r; cases e; rfl
  | str s =>
    obtain ⟨rfl, g⟩ := r
    cases e
    refine ⟨by rw [mkS_len]; exact g.1, ?_⟩
    rw [mkS_len]
    by_cases h : s.length = 0
    · rw [h]; rfl
    · rw [bne_iff_ne.mpr h, bne_iff_ne.mpr (by omega)]
  | tup xs =>
    obtain ⟨a, vs, rfl, t, q, _⟩ := r
    cases e
    exact .inr (.inl ⟨vs, t.sq, by cases xs with | nil => cases q; rfl | cons x r => obtain ⟨_, _, rfl, _⟩ := q; rfl⟩)
  | lst xs =>
    obtain ⟨a, vs, rfl, _, t, q, _⟩ := r
    cases e
    exact .inl ⟨vs, .inl (.inl t), by cases xs with | nil => cases q; rfl | cons x r => obtain ⟨_, _, rfl, _⟩ := q; rfl⟩
  | scr xs =>
    obtain ⟨a, vs, rfl, t, q, _⟩ := r
    cases e
    exact .inl ⟨vs, t.sq, by cases xs with | nil => cases q; rfl | cons x r => obtain ⟨_, _, rfl, _⟩ := q; rfl⟩
  | ref a =>
    cases r
    cases q : m a with
    | none => simp [truD, q] at e
    | some o =>
      cases o with
      | lst xs =>
        have e' : truD m (.ref a) = some (!xs.isEmpty) := by simp [truD, q]
        rw [e'] at e
        cases e
        obtain ⟨vs, t, q, _⟩ := (R a _ q).2
        exact .inl ⟨vs, .inl (.inl t), by cases xs with | nil => cases q; rfl | cons x r => obtain ⟨_, _, rfl, _⟩ := q; rfl⟩
      | dic kvs =>
        have e' : truD m (.ref a) = some (!kvs.isEmpty) := by simp [truD, q]
        rw [e'] at e
        cases e
        obtain ⟨ls, us, h1, h2, h3, _⟩ := (R a _ q).2
        refine .inr (.inr ⟨_, h1, ?_⟩)
        have l1 := keysD_len h2
        have l2 := h3.len
        cases kvs with
        | nil =>
          cases ls with
          | nil => rfl
          | cons _ _ => cases l1
        | cons x r =>
          cases ls with
          | nil => cases l1
          | cons _ _ =>
            cases us with
            | nil => cases l2
            | cons _ _ => rfl
      | ins _ _ => simp [truD, q] at e
  | ty _ => cases e
  | gl _ => cases e
  | obj _ _ _ => cases e
  | exc _ _ _ _ => cases e
  | dic ks vs =>
    cases e
    obtain ⟨a, ls, us, rfl, _, h1, h2, h3, h4, _⟩ := r
    refine .inr (.inr ⟨_, h1, ?_⟩)
    have l1 := keysD_len h2
    cases ks with
    | nil =>
      cases ls with
      | nil => rfl
      | cons _ _ => cases l1
    | cons x r =>
      cases ls with
      | nil => cases l1
      | cons _ _ =>
        cases us with
        | nil => cases h4
        | cons _ _ => rfl
/-! ### subscripts -/
theorem atI_reps {K : PySem.W.Frag} {mg : Str → Option Value} {F : Addr → Prop} {H : Hp} {xs : List D} {vs : List V} {i : Int} {d : D} (r : Reps K mg F H xs vs) (e : atI xs i = some d) : ∃ v, atI vs i = some v ∧ Rep K mg F H d v := by
  unfold atI at e ⊢
  rw [← r.len]
  cases q : ixN xs.length i with
  | none => rw [q] at e; cases e
  | some j => rw [q] at e; exact r.get e
theorem atD_list {m : MH} {x y z : D} (e : atD m x y = some z) : (∃ s i c, x = .str s ∧ y = .int i ∧ atI s i = some c ∧ z = .str [c]) ∨ ∃ xs i, seqOf m x = some xs ∧ y = .int i ∧ atI xs i = some z := by
  cases x with
  | str s =>
    cases y with
    | int i =>
      cases q : atI s i with
      | none => simp [atD, q] at e
      | some c => simp [atD, q] at e; exact .inl ⟨s, i, c, rfl, rfl, q, e.symm⟩
    | _ => cases e
  | tup xs =>
    cases y with
    | int i => exact .inr ⟨xs, i, rfl, rfl, e⟩
    | _ => cases e
  | lst xs =>
    cases y with
    | int i => exact .inr ⟨xs, i, rfl, rfl, e⟩
    | _ => cases e
  | scr xs =>
    cases y with
    | int i => exact .inr ⟨xs, i, rfl, rfl, e⟩
    | _ => cases e
  | ref a =>
    cases y with
    | int i =>
      cases q : m a with
      | none => simp [atD, q] at e
      | some o =>
        cases o with
        | lst xs => simp [atD, q] at e; exact .inr ⟨xs, i, by simp [seqOf, lstOf, q], rfl, e⟩
        | _ => simp [atD, q] at e
    | _ => cases e
  | _ => cases e
theorem ix_D : IxR X (V2 X atD) := by
  intro value slice pins s σ H x y v u Q I rx ry h hs
  obtain ⟨m, F, dx, dy, Q0, R, hx, hy, hw, go⟩ := h
  obtain ⟨z, e, q⟩ := getw_iff.mp hw
  rcases atD_list e with ⟨t, i, c, rfl, rfl, e1, rfl⟩ | ⟨xs, i, e1, rfl, e2⟩
  · obtain ⟨rfl, g⟩ := hx
    cases hy
    refine ix_seq value slice pins s σ H _ _ v u Q I rx ry (.inr (.inr ⟨mkS t, i, c, rfl, rfl, by rw [mkS_len]; exact g.1, by rw [mkS_cps]; exact e1, ?_⟩)) hs
    have hc : c ∈ t := by
      unfold atI at e1
      cases q2 : ixN t.length i with
      | none => rw [q2] at e1; cases e1
      | some j => rw [q2] at e1; exact List.mem_of_getElem? e1
    have sl : sizeLine = 16777216 := sizeLine_eq
    exact go.go q R ⟨rfl, by show 1 ≤ sizeLine; omega, fun d hd => by rw [List.mem_singleton.mp hd]; exact g.2 c hc⟩
  · obtain ⟨a, vs, rfl, t, r, _⟩ := rep_seq R hx e1
    cases hy
    obtain ⟨w, e3, r3⟩ := atI_reps r e2
    rcases t with t | t
    · exact ix_seq value slice pins s σ H _ _ v u Q I rx ry (.inl ⟨a, vs, i, w, rfl, rfl, t, e3, go.go q R r3⟩) hs
    · exact ix_seq value slice pins s σ H _ _ v u Q I rx ry (.inr (.inl ⟨a, vs, i, w, rfl, rfl, t, e3, go.go q R r3⟩)) hs
/-! ### slices -/
theorem cut_reps {K : PySem.W.Frag} {mg : Str → Option Value} {F : Addr → Prop} {H : Hp} {xs : List D} {vs : List V} (r : Reps K mg F H xs vs) (lo hi : Option Int) : Reps K mg F H (cut xs lo hi) (cutV vs lo hi) := by
  unfold cut cutV
  rw [r.len]
  exact (r.drop _).take _
theorem cut_len {α : Type} (xs : List α) (lo hi : Option Int) : (cut xs lo hi).length ≤ xs.length := by
  unfold cut
  rw [List.length_take, List.length_drop]
  omega
theorem cut_mem {α : Type} {xs : List α} {lo hi : Option Int} {x : α} (h : x ∈ cut xs lo hi) : x ∈ xs := List.mem_of_mem_drop (List.mem_of_mem_take h)
theorem cut_whole {α : Type} {xs : List α} {lo hi : Option Int} (h : HT.sIx xs.length 0 lo = 0 ∧ HT.sIx xs.length xs.length hi = xs.length) : cut xs lo hi = xs := by
  unfold cut
  rw [h.1, h.2]
  simp
theorem cutS_mk (s : List Nat) (lo hi : Option Int) : cutS (mkS s) lo hi = mkS (cut s lo hi) := by
  unfold cutS cut mkS
  rw [show (⟨s.toArray⟩ : Str).length = s.length from mkS_len s]
/-- what a slice asks, by trees -/
def VS (X : Cx) : V → Option Int → Option Int → Hp → VK → Prop := fun x lo hi H Q => ∃ m F dx Q0, RelH X.K X.mg m F H ∧ Rep X.K X.mg F H dx x ∧ getw (slD m lo hi dx) (fun z => Q0 z m) ∧ GoQ X.K X.mg m F H Q0 Q
theorem sl_D : SlR X (VS X) := by
  intro pins s σ H x v vl vu lo hi sl Q I rx hs pl pu h
  obtain ⟨m, F, dx, Q0, R, hx, hw, go⟩ := h
  have lists : ∀ (xs : List D) (a : Addr) (vs : List V), x = .ref a → SqL X.K H a vs → Reps X.K X.mg F H xs vs → xs.length ≤ sizeLine → Q0 (.lst (cut xs lo hi)) m →
      ∃ T id, typeLookup (.type T) "__getitem__" = pure (some (.builtin id)) ∧ s.TypeIs v T ∧ wpAny (model X.prog X.w) X.A (getItem v (.ref sl)) (EP X pins σ Q) X.xe s := by
    intro xs a vs e t r hl q
    refine sl_list pins s σ H _ v vl vu lo hi sl Q I rx hs pl pu ⟨a, vs, e, t, fun p hp => ?_⟩
    obtain ⟨n, rr⟩ := Nx.newLst R hp (cut_reps r lo hi) (Nat.le_trans (cut_len _ _ _) hl)
    exact go _ _ _ _ _ q n rr
  cases dx with
  | str z =>
    obtain ⟨rfl, g⟩ := hx
    exact sl_str pins s σ H _ v vl vu lo hi sl Q I rx hs pl pu ⟨mkS z, rfl, by rw [mkS_len]; exact g.1, by
      rw [cutS_mk]; exact go.go hw R ⟨rfl, g.sub (cut_len _ _ _) fun c hc => cut_mem hc⟩⟩
  | tup xs =>
    obtain ⟨a, vs, rfl, t, r, hl⟩ := hx
    refine sl_tupA pins s σ H _ v vl vu lo hi sl Q I rx hs pl pu ⟨a, vs, rfl, t.sq, fun e => ?_, fun _ p hp => ?_⟩
    · rw [← r.len] at e
      have hw' : Q0 (.tup (cut xs lo hi)) m := hw
      rw [cut_whole e] at hw'
      exact go.go hw' R ⟨a, vs, rfl, t, r, hl⟩
    · obtain ⟨n, rr⟩ := Nx.newTup R hp (cut_reps r lo hi) (Nat.le_trans (cut_len _ _ _) hl)
      exact go _ _ _ _ _ hw n rr
  | lst xs =>
    obtain ⟨a, vs, e, _, t, r, hl⟩ := hx
    exact lists xs a vs e (.inl (.inl t)) r hl hw
  | scr xs =>
    obtain ⟨a, vs, e, t, r, hl⟩ := hx
    exact lists xs a vs e t.sq r hl hw
  | ref a =>
    cases q : m a with
    | none => simp [slD, q] at hw
    | some o =>
      cases o with
      | lst xs =>
        simp only [slD, q] at hw
        obtain ⟨vs, t, r, hl⟩ := (R a _ q).2
        exact lists xs a vs hx (.inl (.inl t)) r hl hw
      | _ => simp [slD, q] at hw
  | _ => exact hw.elim
/-! ### built-in functions -/
def VN (X : Cx) (f : MH → List D → Option D) : List V → Hp → VK → Prop := fun xs H Q => ∃ m F ds Q0, RelH X.K X.mg m F H ∧ Reps X.K X.mg F H ds xs ∧ getw (f m ds) (fun z => Q0 z m) ∧ GoQ X.K X.mg m F H Q0 Q
theorem Reps.one' {K : PySem.W.Frag} {mg : Str → Option Value} {F : Addr → Prop} {H : Hp} {d : D} {vs : List V} (r : Reps K mg F H [d] vs) : ∃ v, vs = [v] ∧ Rep K mg F H d v := by
  obtain ⟨v, w, rfl, h1, h2⟩ := r
  cases h2
  exact ⟨v, rfl, h1⟩
theorem Reps.two' {K : PySem.W.Frag} {mg : Str → Option Value} {F : Addr → Prop} {H : Hp} {d e : D} {vs : List V} (r : Reps K mg F H [d, e] vs) : ∃ v w, vs = [v, w] ∧ Rep K mg F H d v ∧ Rep K mg F H e w := by
  obtain ⟨v, w, rfl, h1, h2⟩ := r
  obtain ⟨u, rfl, h3⟩ := h2.one'
  exact ⟨v, u, rfl, h1, h3⟩
theorem call_lenF : CallR X (.builtin "len") (VN X lenF) := by
  intro pins s σ H xs us Q I r h
  obtain ⟨m, F, ds, Q0, R, hx, hw, go⟩ := h
  obtain ⟨z, e, q⟩ := getw_iff.mp hw
  change lenF m ds = some z at e
  unfold lenF at e
  split at e
  · rename_i d
    obtain ⟨v, rfl, hr⟩ := hx.one'
    obtain ⟨n, e1, rfl⟩ := Option.map_eq_some_iff.mp e
    refine call_len pins s σ H _ us Q I r ⟨v, n, rfl, ?_, go.go q R rfl⟩
    have lists : ∀ zs, seqOf m d = some zs → n = zs.length → LenV X.K v H n := fun zs h1 h2 => by
      obtain ⟨a, vs, rfl, t, rr, _⟩ := rep_seq R hr h1
      rw [h2, rr.len]
      exact t.elim (fun t => .inl ⟨vs, t, rfl⟩) (fun t => .inr ⟨vs, t, rfl⟩)
    cases d with
    | str z => obtain ⟨rfl, g⟩ := hr; cases e1; exact ⟨by rw [mkS_len]; exact g.1, (mkS_len _).symm⟩
    | tup zs => cases e1; exact lists zs rfl rfl
    | lst zs => cases e1; exact lists zs rfl rfl
    | scr zs => cases e1; exact lists zs rfl rfl
    | ref a =>
      cases q2 : m a with
      | none => simp [lenD, q2] at e1
      | some o =>
        cases o with
        | lst zs => simp [lenD, q2] at e1; exact lists zs (by simp [seqOf, lstOf, q2]) e1.symm
        | dic _ => simp [lenD, q2] at e1
        | ins _ _ => simp [lenD, q2] at e1
    | _ => cases e1
  · cases e
theorem isi_ok : ∀ a ∈ tyNames, ∀ b ∈ tyNames, kitB a b = some (isiTy a b) := by decide +kernel
theorem tyD_rep {K : PySem.W.Frag} {mg : Str → Option Value} {m : MH} {F : Addr → Prop} {H : Hp} {d : D} {v : V} {t : String} (R : RelH K mg m F H) (r : Rep K mg F H d v) (e : tyD m d = some t) : ∃ u, TyX K H v u ∧ ((u = .type t ∧ t ∈ tyNames) ∨ ∃ C, u = .ref C ∧ ClsAt K mg t C) := by
  have bi : ∀ {t : String}, TyX K H v (.type t) ∧ t ∈ tyNames → ∃ u, TyX K H v u ∧ ((u = .type t ∧ t ∈ tyNames) ∨ ∃ C, u = .ref C ∧ ClsAt K mg t C) := fun z => ⟨_, z.1, .inl ⟨rfl, z.2⟩⟩
  cases d with
  | non => cases r; cases e; exact bi ⟨.base .non, by decide⟩
  | bl b => cases r; cases e; exact bi ⟨.base (.bl b), by decide⟩
  | int b => cases r; cases e; exact bi ⟨.base (.int b), by decide⟩
  | str b => obtain ⟨rfl, _⟩ := r; cases e; exact bi ⟨.base (.str _), by decide⟩
  | tup b =>
    obtain ⟨a, vs, rfl, z, _⟩ := r
    cases e
    refine bi ⟨?_, by decide⟩
    rcases z with ⟨_, z | ⟨o, z⟩⟩ | ⟨o, its, n, z, c, _⟩
    · exact .base (.tup z)
    · exact .fTuple z
    · exact .kTuple z c
  | lst b => obtain ⟨a, vs, rfl, _, z, _⟩ := r; cases e; exact bi ⟨.base (.lst z), by decide⟩
  | scr b =>
    obtain ⟨a, vs, rfl, z, _⟩ := r
    cases e
    refine bi ⟨?_, by decide⟩
    rcases z with ⟨_, o, z⟩ | ⟨o, its, n, z, c, _⟩
    · exact .base (.frz z)
    · exact .kList z c
  | ref a =>
    cases r
    cases q2 : m a with
    | none => simp [tyD, q2] at e
    | some o =>
      cases o with
      | lst zs => simp [tyD, q2] at e; subst e; obtain ⟨vs, z, _⟩ := (R a _ q2).2; exact ⟨_, .base (.lst z), .inl ⟨rfl, by decide⟩⟩
      | dic _ => simp [tyD, q2] at e; subst e; obtain ⟨ls, us, z, _⟩ := (R a _ q2).2; exact ⟨_, .base (.dK z), .inl ⟨rfl, by decide⟩⟩
      | ins c fs =>
        simp [tyD, q2] at e; subst e
        obtain ⟨C, dx, us, k, z, _⟩ := (R a _ q2).2
        exact ⟨_, .base (.ins z k.2.1.cls k.2.1.ha k.2.1.hn k.2.1.htk k.2.1.hm), .inr ⟨C, rfl, k⟩⟩
  | ty _ => cases e
  | gl _ => cases e
  | dic ks vs => obtain ⟨a, ls, us, rfl, _, z, _⟩ := r; cases e; exact bi ⟨.base (.dK z), by decide⟩
  | exc _ _ _ _ => cases e
  | obj c ns vs =>
    obtain ⟨a, C, dx, us, rfl, _, k, z, _⟩ := r
    cases e
    exact ⟨_, .base (.ins z k.2.1.cls k.2.1.ha k.2.1.hn k.2.1.htk k.2.1.hm), .inr ⟨C, rfl, k⟩⟩
theorem call_isiF : CallR X (.builtin "isinstance") (VN X isiF) := by
  intro pins s σ H xs us Q I r h
  obtain ⟨m, F, ds, Q0, R, hx, hw, go⟩ := h
  obtain ⟨z, e, q⟩ := getw_iff.mp hw
  change isiF m ds = some z at e
  unfold isiF at e
  split at e
  · rename_i d c
    obtain ⟨v, w, rfl, hr, hc⟩ := hx.two'
    cases hc
    split at e
    · rename_i hcn
      obtain ⟨t, e1, rfl⟩ := Option.map_eq_some_iff.mp e
      obtain ⟨u, tx, ⟨rfl, tn⟩ | ⟨C, rfl, k⟩⟩ := tyD_rep R hr e1
      · exact call_isi pins s σ H _ us Q I r ⟨v, .ty c, .type t, .type c, isiTy t c, rfl, .ty c, tx, kit_ty (isi_ok t tn c (List.contains_iff_mem.mp hcn)), go.go q R rfl⟩
      · refine call_isi pins s σ H _ us Q I r ⟨v, .ty c, .ref C, .type c, isiTy t c, rfl, .ty c, tx, ?_, go.go q R rfl⟩
        have e2 : isiTy t c = false := by
          have h1 : t ≠ c := fun z => by have := k.2.2; rw [z, hcn] at this; cases this
          have h2 : t ≠ "bool" := fun z => by have := k.2.2; rw [z] at this; exact absurd this (by decide)
          unfold isiTy
          rw [beq_eq_false_iff_ne.mpr h1, beq_eq_false_iff_ne.mpr h2]; rfl
        rw [e2]
        exact k.2.1.no c (List.contains_iff_mem.mp hcn)
    · cases e
  · cases e
theorem bools_of {m : MH} {F : Addr → Prop} {H : Hp} (R : RelH X.K X.mg m F H) {d : D} {v : V} (hr : Rep X.K X.mg F H d v) {zs : List D} {bs : List Bool} (e1 : lstOf m d = some zs) (e2 : boolsOf zs = some bs) : ∃ a, v = .ref a ∧ SqL X.K H a (bs.map V.bl) := by
  obtain ⟨a, vs, rfl, t, rr, _⟩ := rep_lst R hr e1
  rw [rr.bools e2] at t
  exact ⟨a, rfl, t⟩
theorem call_allF (hc : X.calm = true) : CallR X (.builtin "all") (VN X allF) := by
  intro pins s σ H xs us Q I r h
  obtain ⟨m, F, ds, Q0, R, hx, hw, go⟩ := h
  obtain ⟨z, e, q⟩ := getw_iff.mp hw
  change allF m ds = some z at e
  unfold allF at e
  split at e
  · obtain ⟨v, rfl, hr⟩ := hx.one'
    obtain ⟨zs, e1, e2⟩ := Option.bind_eq_some_iff.mp e
    obtain ⟨bs, e3, rfl⟩ := Option.map_eq_some_iff.mp e2
    obtain ⟨a, rfl, t⟩ := bools_of R hr e1 e3
    exact cr_all hc pins s σ H _ us Q I r ⟨a, bs, rfl, t, go.go q R rfl⟩
  · cases e
theorem call_anyF (hc : X.calm = true) : CallR X (.builtin "any") (VN X anyF) := by
  intro pins s σ H xs us Q I r h
  obtain ⟨m, F, ds, Q0, R, hx, hw, go⟩ := h
  obtain ⟨z, e, q⟩ := getw_iff.mp hw
  change anyF m ds = some z at e
  unfold anyF at e
  split at e
  · obtain ⟨v, rfl, hr⟩ := hx.one'
    obtain ⟨zs, e1, e2⟩ := Option.bind_eq_some_iff.mp e
    obtain ⟨bs, e3, rfl⟩ := Option.map_eq_some_iff.mp e2
    obtain ⟨a, rfl, t⟩ := bools_of R hr e1 e3
    exact cr_any hc pins s σ H _ us Q I r ⟨a, bs, rfl, t, go.go q R rfl⟩
  · cases e
theorem call_tupF : CallR X (.type "tuple") (VN X tupF) := by
  intro pins s σ H xs us Q I r h
  obtain ⟨m, F, ds, Q0, R, hx, hw, go⟩ := h
  obtain ⟨z, e, q⟩ := getw_iff.mp hw
  change tupF m ds = some z at e
  unfold tupF at e
  split at e
  · rename_i d
    obtain ⟨v, rfl, hr⟩ := hx.one'
    obtain ⟨zs, e1, rfl⟩ := Option.map_eq_some_iff.mp e
    cases d with
    | tup ys =>
      cases e1
      obtain ⟨a, vs, rfl, t, rr, hl⟩ := hr
      exact call_tuple_of pins s σ H _ us Q I r ⟨a, vs, rfl, .inr ⟨t.sq, go.go q R ⟨a, vs, rfl, t, rr, hl⟩⟩⟩
    | _ =>
      obtain ⟨a, vs, rfl, t, rr, hl⟩ := rep_lst R hr e1
      refine call_tuple_of pins s σ H _ us Q I r ⟨a, vs, rfl, .inl ⟨t, fun p hp => ?_⟩⟩
      obtain ⟨n, r2⟩ := Nx.newTup R hp rr hl
      exact go _ _ _ _ _ q n r2
  · cases e
theorem call_lstF : CallR X (.type "list") (VN X lstF) := by
  intro pins s σ H xs us Q I r h
  obtain ⟨m, F, ds, Q0, R, hx, hw, go⟩ := h
  obtain ⟨z, e, q⟩ := getw_iff.mp hw
  change lstF m ds = some z at e
  unfold lstF at e
  split at e
  · obtain ⟨v, rfl, hr⟩ := hx.one'
    obtain ⟨zs, e1, rfl⟩ := Option.map_eq_some_iff.mp e
    obtain ⟨a, vs, rfl, t, rr, hl⟩ := rep_seq R hr e1
    refine call_list_of pins s σ H _ us Q I r ⟨a, vs, rfl, t, fun p hp => ?_⟩
    obtain ⟨n, r2⟩ := Nx.newLst R hp rr hl
    exact go _ _ _ _ _ q n r2
  · cases e
theorem call_intF : CallR X (.type "int") (VN X fun _ => intF) := by
  intro pins s σ H xs us Q I r h
  obtain ⟨m, F, ds, Q0, R, hx, hw, go⟩ := h
  obtain ⟨z, e, q⟩ := getw_iff.mp hw
  change intF ds = some z at e
  unfold intF at e
  split at e
  · rename_i i
    obtain ⟨v, rfl, hr⟩ := hx.one'
    cases hr
    exact call_int1 pins s σ H _ us Q I r (.inl ⟨i, rfl, go.go hw R rfl⟩)
  · rename_i i
    obtain ⟨v, rfl, hr⟩ := hx.one'
    cases hr
    exact call_int1 pins s σ H _ us Q I r (.inr ⟨i, rfl, go.go hw R rfl⟩)
  · cases e
theorem call_maxF (hc : X.calm = true) : CallR X (.builtin "max") (VN X fun _ => maxF) := by
  intro pins s σ H xs us Q I r h
  obtain ⟨m, F, ds, Q0, R, hx, hw, go⟩ := h
  obtain ⟨z, e, q⟩ := getw_iff.mp hw
  change maxF ds = some z at e
  unfold maxF at e
  split at e
  · rename_i i j
    obtain ⟨v, w, rfl, hr, hr'⟩ := hx.two'
    cases hr; cases hr'
    exact call_max2 hc pins s σ H _ us Q I r ⟨i, j, rfl, go.go hw R rfl⟩
  · cases e
theorem call_minF (hc : X.calm = true) : CallR X (.builtin "min") (VN X fun _ => minF) := by
  intro pins s σ H xs us Q I r h
  obtain ⟨m, F, ds, Q0, R, hx, hw, go⟩ := h
  obtain ⟨z, e, q⟩ := getw_iff.mp hw
  change minF ds = some z at e
  unfold minF at e
  split at e
  · rename_i i j
    obtain ⟨v, w, rfl, hr, hr'⟩ := hx.two'
    cases hr; cases hr'
    exact call_min2 hc pins s σ H _ us Q I r ⟨i, j, rfl, go.go hw R rfl⟩
  · cases e
end
end PT
end
section
set_option linter.all false
set_option maxRecDepth 100000
set_option maxHeartbeats 4000000
/-! PtEn: enumerate of a tuple. -/
namespace PT
open PySem PySem.Spec PyProof.Rows L2

abbrev enObj (src : Addr) : Obj := { cls := .type "enumerate", data := .fields #[.none, .bool false, .ref src, rawInt 0, .none, .none] }
theorem en_new1 {v : Value} {o : Obj} {Hq : Heap → Prop} (B : Begins v o Hq) :
    Meets (Builtin.«enumerate.__new__» ⟨[.type "enumerate", v], []⟩) (fun _ R s => Hq s.heap ∧ R (.ok (.ret (.ref (s.heap.push o).objs.size))) { s with heap := (s.heap.push o).push (enObj s.heap.objs.size) }) := by
  refine .of_wp fun pr w A R s hh => ?_
  obtain ⟨hp, gg, dd, tk, os⟩ := s
  obtain ⟨b1, fin⟩ := hh
  have hs := PySem.sub_enumerate
  have stp : ∀ {A' : Around} {E : Value → Shared → Prop} {Q : Value → Shared → Prop}, Q (.ref hp.objs.size) ⟨hp.push o, gg, dd, tk, os⟩ → wpAny (model pr w) A' (pyIter v) Q E ⟨hp, gg, dd, tk, os⟩ := fun {A' E Q} z => B.iter pr w A' E ⟨hp, gg, dd, tk, os⟩ Q b1 z
  wp_walk using stp
  refine wpAny_stack_any fun stk => wpAny_pure ?_; split
  · rename_i k _ _ _ _ _
    cases (k == Value.type "enumerate") <;> (wp_walk using stp; exact ⟨_, rfl, fin⟩)
  · wp_walk using stp; exact ⟨_, rfl, fin⟩
section
variable {prog : Program} {w : World} {A : Around} {E : Value → Shared → Prop} {s : Shared}
theorem en_begin {v : Value} {o : Obj} {Hq : Heap → Prop} {Q : Value → Shared → Prop} (B : Begins v o Hq) (b1 : Hq s.heap)
    (fin : ∀ h', IsEnum h' (s.heap.objs.size + 1) s.heap.objs.size 0 .none → h'.get? s.heap.objs.size = some o → (∀ b u, s.heap.get? b = some u → h'.get? b = some u) → Q (.ref (s.heap.objs.size + 1)) { s with heap := h' }) :
    wpAny (model prog w) A (call (.type "enumerate") [v]) Q E s := by
  refine callType_new F.called_enumerate (by decide) (F.typeCall_enumerate_1 _) (F.newCall_enumerate_1 _) (fun ob => F.args_object_init_2 ob _) F.entry_enumerate_new (en_new1 B) ⟨b1, ?_⟩
  have sz : (s.heap.push o).objs.size = s.heap.objs.size + 1 := Heap.size_push ..
  show _ ∧ _; rw [sz]
  have at1 : IsEnum ((s.heap.push o).push (enObj s.heap.objs.size)) (s.heap.objs.size + 1) s.heap.objs.size 0 .none := by
    have z := Heap.get?_push_size (s.heap.push o) (o := enObj s.heap.objs.size) rfl
    rw [sz] at z; exact z
  exact ⟨⟨_, at1, rfl⟩, fin _ at1 (Heap.get?_push_of_some _ (Heap.get?_push_size _ B.free)) fun b u q => Heap.get?_push_of_some _ (Heap.get?_push_of_some _ q)⟩
end
/-- the tuple at a, each item in a new pair with its number -/
def ItN (K : PySem.W.Frag) (a : Addr) : It where
  go := fun i H => ∃ (xs : List V) (x : V), SqT K H a xs ∧ xs[i]? = some x
  yld := fun i H v H' => ∃ T x, v = .ref T ∧ H T = none ∧ H' = upd H T (.tup [.int (i : Nat), x]) ∧ ∀ xs, SqT K H a xs → xs[i]? = some x
  stop := fun i H => ∃ xs : List V, SqT K H a xs ∧ i = xs.length
theorem turnN {P : Program} {w : World} {K : PySem.W.Frag} {elts : List Expr} {kk : Nat} {tpos : Pos} (a e it : Addr) :
    Turn P w K (.Tuple elts kk tpos) (ItN K a) [e, it] e (fun i h => (∃ old, IsEnum h e it ((i : Nat) : Int) old) ∧ h.IsTupleIter it a i ∧ e ≠ it ∧ a ≠ it ∧ a ≠ e) := by
  have two : ∀ {b : Addr}, b ∈ [e, it] → b = e ∨ b = it := fun h => by simpa using h
  have ie : e ∈ [e, it] := by simp
  have ii : it ∈ [e, it] := by simp
  refine ⟨ie, ?_, ?_, ?_, ?_, ?_⟩
  · rintro i h ⟨⟨old, he⟩, ⟨o, ho, hc, hd⟩, _⟩ b hb
    rcases two hb with rfl | rfl
    · exact ⟨_, he, fun v q => nomatch q⟩
    · exact ⟨o, ho, fun v q => by rw [hd] at q; cases q⟩
  · rintro i h h' ⟨⟨old, he⟩, hi, hne⟩ k
    exact ⟨⟨old, k e ie _ he⟩, hi.at fun o q => k it ii o q, hne⟩
  · intro X hP hw hK hc i pins s σ H E I hf st hg
    subst hP hw hK
    obtain ⟨⟨old, he⟩, hit, hne, hai, hae⟩ := st
    obtain ⟨xs, x, hq, hx⟩ := hg
    obtain ⟨its, rv, p, hz⟩ := I.tuple hq
    have hel : e < s.heap.objs.size := Heap.lt_size he
    have hil : it < s.heap.objs.size := by obtain ⟨_, q, _⟩ := hit; exact Heap.lt_size q
    have hi : i < its.toArray.size := by
      have := (List.getElem?_eq_some_iff.mp hx).1
      rw [List.size_toArray, ← rv.length]
      exact this
    have Dr := Draws.tuple (prog := X.prog) (w := X.w) (A := X.A.in1) (I.ok.hd hc) it a hai its.toArray
    refine wpAny_pyNext_enum_itemC Dr he ⟨hit, p⟩ hi hne (by simp only [List.mem_cons, List.not_mem_nil, or_false, not_or]; exact ⟨hne, fun z => hae z.symm⟩) fun u h' tk hu ho hst hT hsz hk => ?_
    obtain ⟨u', hu', ru⟩ := rv.get hx
    have eu : u = u' := by
      have z : its[i]? = some u := by simpa using hu
      rw [hu'] at z; exact (Option.some.inj z).symm
    subst eu
    refine ⟨_, rfl, wpAny_letOwnedTupleGo_enum (s := { s with heap := h', toks := tk + 1 }) ho fun h2 he2 sb => ?_⟩
    have hT2 := (sb.2 _ (Nat.ne_of_gt hel)).trans hT
    have new : ObjOk X.prog X.w (upd H s.heap.objs.size (.tup [.int (i : Nat), x])) h2 s.heap.objs.size (.tup [.int (i : Nat), x]) := by
      refine ⟨by show 2 ≤ sizeLine; decide, [.int i tk, u], .cons ⟨_, rfl⟩ (.cons ru .nil), _, hT2, rfl, _, rfl⟩
    have I1 := I.turnedNew (t' := tk + 1) (h' := h2) (ch := [e, it]) (fun b ob hb q => (sb.2 b fun z => hb (by simp [z])).trans (hk b ob (fun z => hb (by simp [z])) (fun z => hb (by simp [z])) q)) hf (Nat.le_refl _) new
    refine ⟨.ref s.heap.objs.size, _, I1, rfl, ⟨_, x, rfl, I.hok.fresh (Nat.le_refl _), rfl, fun ys hy => by rw [I.tuple_inj hy hq]; exact hx⟩, ⟨⟨u, ?_⟩, hst.1.at fun o q => (sb.2 it (Ne.symm hne)).trans q, hne, hai, hae⟩, fun b hb => ?_⟩
    · have e1 : ((i + 1 : Nat) : Int) = (i : Int) + 1 := by omega
      rw [e1]; exact he2
    · have hb' : b < s.heap.objs.size := by rcases two hb with rfl | rfl <;> assumption
      rw [upd_ne (Nat.ne_of_lt hb')]
      exact (hf b hb).1
  · intro X hP hw hK hc i pins s σ H E I hf st hg
    subst hP hw hK
    obtain ⟨⟨old, he⟩, hit, hne, hai, hae⟩ := st
    obtain ⟨xs, hq, rfl⟩ := hg
    obtain ⟨its, rv, p, hz⟩ := I.tuple hq
    obtain ⟨f0, f1, f2, f3, f4, f5⟩ := hf it ii
    have Dr := Draws.tuple (prog := X.prog) (w := X.w) (A := X.A.in1) (I.ok.hd hc) it a hai its.toArray
    have hl : its.toArray.size = xs.length := by rw [List.size_toArray]; exact rv.length.symm
    refine wpAny_pyNext_enum_endD Dr he (by rw [hl]; exact ⟨hit, p⟩) fun h' eb => ⟨rfl, I.turned (t' := s.toks) (fun b o hb q => eb b o hb q) f0 f1 f3 f4 f5⟩
  · rintro A i s Q E ⟨⟨_, he⟩, _⟩ h
    exact wpAny_pyIter_enum he h
theorem walkN {K : PySem.W.Frag} {a : Addr} {xs : List V} : Walk (ItN K a) xs.length (fun H => SqT K H a xs) (YPair (fun i => some (.int (i : Nat))) (fun i => xs[i]?)) := by
  refine ⟨fun i _ hi q => ⟨xs, xs[i], q, by simp [hi]⟩, fun _ q => ⟨xs, q, rfl⟩, fun i H v H' _ q y => ?_⟩
  obtain ⟨T, x, h1, h2, h3, h4⟩ := y
  exact ⟨T, .int (i : Nat), x, h1, h2, h3, rfl, h4 xs q⟩
end PT
end
section
set_option linter.all false
set_option maxRecDepth 100000
set_option maxHeartbeats 4000000
/-! PtF: methods, stores, what a for walks, by trees. -/
namespace PT
open PySem PySem.Spec PyProof.Rows L2

section
variable {X : Cx}
/-- a method by trees -/
def VM (X : Cx) (f : MH → D → List D → Option (D × MH)) : V → List V → Hp → VK → Prop := fun x xs H Q => ∃ m F d ds Q0, RelH X.K X.mg m F H ∧ Rep X.K X.mg F H d x ∧ Reps X.K X.mg F H ds xs ∧ getw (f m d ds) (fun z => Q0 z.1 z.2) ∧ GoQ X.K X.mg m F H Q0 Q
theorem joinL_len (sep : List Nat) : ∀ ss : List (List Nat), (TL.joinL sep ss).length ≤ (ss.map (·.length)).sum + ss.length * sep.length
  | [] => by simp [TL.joinL]
  | [p] => by simp [TL.joinL]
  | p :: q :: r => by
    have ih := joinL_len sep (q :: r)
    simp only [TL.joinL, List.length_append, List.map_cons, List.sum_cons, List.length_cons, Nat.add_mul, Nat.one_mul] at ih ⊢
    omega
theorem joinL_mem (sep : List Nat) : ∀ (ss : List (List Nat)) (c : Nat), c ∈ TL.joinL sep ss → c ∈ sep ∨ ∃ s ∈ ss, c ∈ s
  | [], _, h => nomatch h
  | [p], c, h => .inr ⟨p, by simp, h⟩
  | p :: q :: r, c, h => by
    rcases List.mem_append.mp h with h | h
    · exact .inr ⟨p, by simp, h⟩
    · rcases List.mem_append.mp h with h | h
      · exact .inl h
      · rcases joinL_mem sep (q :: r) c h with h | ⟨s, h1, h2⟩
        · exact .inl h
        · exact .inr ⟨s, List.mem_cons_of_mem _ h1, h2⟩
theorem mt_joinD : MtR X "str.join" (VM X fun m o as => (joinM m o as).map fun d => (d, m)) := by
  intro pins s σ H x xs v us Q I rx r h
  obtain ⟨m, F, d, ds, Q0, R, hx, hxs, hw, go⟩ := h
  obtain ⟨z, e, q⟩ := getw_iff.mp hw
  obtain ⟨z1, e0, rfl⟩ := Option.map_eq_some_iff.mp e
  unfold joinM at e0
  split at e0
  · rename_i sep l
    obtain ⟨rfl, gs⟩ := hx
    obtain ⟨y, rfl, hl⟩ := hxs.one'
    obtain ⟨ys, e1, e2⟩ := Option.bind_eq_some_iff.mp e0
    obtain ⟨ss, e3, e4⟩ := Option.bind_eq_some_iff.mp e2
    split at e4
    · rename_i hb
      cases e4
      obtain ⟨a, vs, rfl, t, rr, _⟩ := rep_seq R hl e1
      obtain ⟨ev, gg⟩ := rr.strs e3
      subst ev
      refine mt_join pins s σ H _ _ v us Q I rx r ⟨mkS sep, a, ss.map mkS, rfl, rfl, t, ?_, ?_⟩
      · have e5 : (ss.map mkS).map (·.length) = ss.map (·.length) := by simp [mkS_len]
        rw [e5, List.length_map, mkS_len]
        exact hb
      · have e6 : Txt.join (mkS sep) (ss.map mkS) = mkS (TL.joinL sep ss) := SX.join_S sep ss
        rw [e6]
        refine go.go q R ⟨rfl, by rw [sizeLine_eq]; exact Nat.le_trans (joinL_len _ _) hb, fun c hc => ?_⟩
        rcases joinL_mem _ _ _ hc with hc | ⟨s1, h1, h2⟩
        · exact gs.2 c hc
        · exact (gg s1 h1).2 c h2
    · cases e4
  · cases e0
theorem spl_splitB (c : Nat) : ∀ (s acc : List Nat), TL.spl [c] 0 acc s = splitB c acc s
  | [], acc => rfl
  | x :: r, acc => by
    by_cases h : x = c
    · subst h
      rw [TL.spl_hit (by simp [TL.pre])]
      show acc :: TL.spl [x] 0 [] r = _
      rw [spl_splitB x r []]
      simp [splitB]
    · rw [TL.spl_miss (by simp [TL.pre, h]), spl_splitB c r (acc ++ [x])]
      simp [splitB, h]
theorem splitB_facts (c : Nat) : ∀ (s acc : List Nat), (splitB c acc s).length ≤ s.length + 1 ∧ ∀ w ∈ splitB c acc s, w.length ≤ acc.length + s.length ∧ ∀ x ∈ w, x ∈ acc ∨ x ∈ s
  | [], acc => ⟨by simp [splitB], fun w hw => by
      have e : w = acc := by simpa [splitB] using hw
      subst e; exact ⟨by simp, fun x hx => .inl hx⟩⟩
  | y :: r, acc => by
    by_cases h : y = c
    · obtain ⟨h1, h2⟩ := splitB_facts c r []
      have e : splitB c acc (y :: r) = acc :: splitB c [] r := by simp [splitB, h]
      rw [e]
      refine ⟨by simp; omega, fun w hw => ?_⟩
      rcases List.mem_cons.mp hw with rfl | hw
      · exact ⟨by omega, fun x hx => .inl hx⟩
      · obtain ⟨a, b⟩ := h2 w hw
        exact ⟨by simp at a ⊢; omega, fun x hx => .inr (List.mem_cons_of_mem _ ((b x hx).resolve_left (by simp)))⟩
    · obtain ⟨h1, h2⟩ := splitB_facts c r (acc ++ [y])
      have e : splitB c acc (y :: r) = splitB c (acc ++ [y]) r := by simp [splitB, h]
      rw [e]
      refine ⟨by simp; omega, fun w hw => ?_⟩
      obtain ⟨a, b⟩ := h2 w hw
      refine ⟨by simp at a ⊢; omega, fun x hx => ?_⟩
      rcases b x hx with z | z
      · rcases List.mem_append.mp z with z | z
        · exact .inl z
        · exact .inr (by rw [List.mem_singleton.mp z]; exact List.mem_cons_self ..)
      · exact .inr (List.mem_cons_of_mem _ z)
theorem reps_strs {K : PySem.W.Frag} {mg : Str → Option Value} {F : Addr → Prop} {H : Hp} : ∀ {ss : List (List Nat)}, (∀ s ∈ ss, sGood s) → Reps K mg F H (ss.map .str) ((ss.map mkS).map V.str)
  | [], _ => rfl
  | s :: ss, h => ⟨_, _, rfl, ⟨rfl, h s (by simp)⟩, reps_strs fun t ht => h t (List.mem_cons_of_mem _ ht)⟩
theorem mt_splitD : MtR X "str.split" (VM X fun m o as => (splitM o as).map fun d => (d, m)) := by
  intro pins s σ H x xs v us Q I rx r h
  obtain ⟨m, F, d, ds, Q0, R, hx, hxs, hw, go⟩ := h
  obtain ⟨z, e, q⟩ := getw_iff.mp hw
  obtain ⟨z1, e0, rfl⟩ := Option.map_eq_some_iff.mp e
  unfold splitM at e0
  split at e0
  · rename_i t c
    obtain ⟨rfl, gs⟩ := hx
    obtain ⟨y, rfl, hl⟩ := hxs.one'
    obtain ⟨rfl, gc⟩ := hl
    split at e0
    · rename_i hb
      cases e0
      refine mt_split pins s σ H _ _ v us Q I rx r ⟨mkS t, mkS [c], rfl, rfl, rfl, by rw [mkS_len]; exact hb.1, fun p hp => ?_⟩
      have e6 : Txt.split (mkS t) (mkS [c]) = (splitB c [] t).map mkS := by
        have z := SX.split_S (a := t) (b := [c]) (by simp) (by simp [hb.2])
        rw [spl_splitB] at z
        exact z
      rw [e6]
      obtain ⟨f1, f2⟩ := splitB_facts c t []
      have sl : sizeLine = 16777216 := sizeLine_eq
      obtain ⟨n, rr⟩ := Nx.newLst R hp (reps_strs (ss := splitB c [] t) fun w hw => ⟨by
        have := (f2 w hw).1
        simp at this
        omega, fun x hx => gs.2 x (((f2 w hw).2 x hx).resolve_left (by simp))⟩) (by rw [List.length_map]; omega)
      exact go _ _ _ _ _ q n rr
    · cases e0
  · cases e0
theorem mt_appendD : MtR X "list.append" (VM X fun m o as => (appendM m o as).map fun m' => (.non, m')) := by
  intro pins s σ H x xs v us Q I rx r h
  obtain ⟨m, F, d, ds, Q0, R, hx, hxs, hw, go⟩ := h
  obtain ⟨z, e, q⟩ := getw_iff.mp hw
  obtain ⟨z1, e0, rfl⟩ := Option.map_eq_some_iff.mp e
  unfold appendM at e0
  split at e0
  · rename_i a y
    cases hx
    obtain ⟨w, rfl, hl⟩ := hxs.one'
    split at e0
    · rename_i ys e1
      split at e0
      · rename_i hb
        cases e0
        obtain ⟨vs, t, rr, _⟩ := (R _ _ e1).2
        refine mt_append pins s σ H _ _ v us Q I rx r ⟨a, vs, w, rfl, rfl, t, by rw [← rr.len]; exact hb, ?_⟩
        have n := Nx.wrLst R e1 (rr.app (Reps.one hl)) (by rw [List.length_append]; exact hb)
        exact go _ _ _ _ _ q n rfl
      · cases e0
    · cases e0
  · cases e0
theorem countP_rep {K : PySem.W.Frag} {mg : Str → Option Value} {F : Addr → Prop} {H : Hp} {x : D} {v : V} (hx : x.flat = true) (rx : Rep K mg F H x v) : ∀ {ds : List D} {vs : List V}, ds.all D.flat = true → Reps K mg F H ds vs → (vs.countP fun z => eqV z v) = ds.countP fun z => z.eqv x
  | [], _, _, r => by cases r; rfl
  | d :: ds, vs, h, r => by
    rw [List.all_cons, Bool.and_eq_true] at h
    obtain ⟨w, vs', rfl, r1, r2⟩ := r
    rw [List.countP_cons, List.countP_cons, countP_rep hx rx h.2 r2, flat_eqv h.1 hx r1 rx]
theorem mt_countD : MtR X "list.count" (VM X fun m o as => (countM m o as).map fun d => (d, m)) := by
  intro pins s σ H x xs v us Q I rx r h
  obtain ⟨m, F, d, ds, Q0, R, hx, hxs, hw, go⟩ := h
  obtain ⟨z, e, q⟩ := getw_iff.mp hw
  obtain ⟨z1, e0, rfl⟩ := Option.map_eq_some_iff.mp e
  unfold countM at e0
  split at e0
  · rename_i y
    obtain ⟨w, rfl, hl⟩ := hxs.one'
    obtain ⟨ys, e1, e2⟩ := Option.bind_eq_some_iff.mp e0
    split at e2
    · rename_i hc
      cases e2
      rw [Bool.and_eq_true] at hc
      obtain ⟨a, vs, rfl, t, rr, _⟩ := rep_lst R hx e1
      obtain ⟨f1, _⟩ := flats_rep hc.1 hl hc.2 rr
      refine mt_countF pins s σ H _ _ v us Q I rx r ⟨a, vs, w, rfl, rfl, t, flat_rep hc.1 hl, f1, ?_⟩
      rw [countP_rep hc.1 hl hc.2 rr]
      exact go.go q R rfl
    · cases e2
  · cases e0
theorem mt_indexD : MtR X "list.index" (VM X fun m o as => (indexM m o as).map fun d => (d, m)) := by
  intro pins s σ H x xs v us Q I rx r h
  obtain ⟨m, F, d, ds, Q0, R, hx, hxs, hw, go⟩ := h
  obtain ⟨z, e, q⟩ := getw_iff.mp hw
  obtain ⟨z1, e0, rfl⟩ := Option.map_eq_some_iff.mp e
  unfold indexM at e0
  split at e0
  · rename_i y
    obtain ⟨w, rfl, hl⟩ := hxs.one'
    obtain ⟨ys, e1, e2⟩ := Option.bind_eq_some_iff.mp e0
    split at e2
    · rename_i hc
      obtain ⟨j, ej, rfl⟩ := Option.map_eq_some_iff.mp e2
      rw [Bool.and_eq_true] at hc
      obtain ⟨a, vs, rfl, t, rr, _⟩ := rep_lst R hx e1
      obtain ⟨f1, _⟩ := flats_rep hc.1 hl hc.2 rr
      rw [List.findIdx?_eq_some_iff_getElem] at ej
      obtain ⟨hj, hp, hno⟩ := ej
      have fl : ∀ i (h : i < ys.length), (ys[i]).flat = true := fun i h => List.all_eq_true.mp hc.2 _ (List.getElem_mem h)
      obtain ⟨zv, g1, g2⟩ := rr.get (List.getElem?_eq_getElem hj)
      refine mt_index pins s σ H _ _ v us Q I rx r ⟨a, vs, w, j, zv, rfl, rfl, t, flat_rep hc.1 hl, f1, g1, ?_, fun m' z' hm hz => ?_, go.go q R rfl⟩
      · rw [flat_eqv (fl j hj) hc.1 g2 hl]; exact hp
      · have hm2 : m' < ys.length := by omega
        obtain ⟨z2, g3, g4⟩ := rr.get (List.getElem?_eq_getElem hm2)
        rw [hz] at g3; cases g3
        rw [flat_eqv (fl m' hm2) hc.1 g4 hl]
        simpa using hno m' hm
    · cases e2
  · cases e0
/-- o[i] = v -/
theorem set_D : PSet X (fun o i v H Q => ∃ m F x y d m', RelH X.K X.mg m F H ∧ Rep X.K X.mg F H x o ∧ Rep X.K X.mg F H y i ∧ Rep X.K X.mg F H d v ∧ setD m x y d = some m' ∧ ∀ F' H', Nx X.K X.mg m F H m' F' H' → Q H') := by
  intro pins s σ H o i v ov iv u Q I ro ri rv h
  obtain ⟨m, F, x, y, d, m', R, hx, hy, hd, e, q⟩ := h
  unfold setD at e
  split at e
  · rename_i a k
    cases hx
    cases hy
    split at e
    · rename_i xs e1
      obtain ⟨j, e2, rfl⟩ := Option.map_eq_some_iff.mp e
      obtain ⟨vs, t, rr, hl⟩ := (R _ _ e1).2
      refine set_list pins s σ H _ _ v ov iv u Q I ro ri rv ⟨a, vs, k, j, rfl, rfl, t, by rw [← rr.len]; exact e2, ?_⟩
      exact q _ _ (Nx.wrLst R e1 (Reps.setAt hd j rr) (by rw [List.length_set]; exact hl))
    · cases e
  · cases e
/-- a op= b at a name -/
theorem aug_D (op : BOp) : PIp X (bopOf op) (fun x y H Q => ∃ m F a b Q0, RelH X.K X.mg m F H ∧ Rep X.K X.mg F H a x ∧ Rep X.K X.mg F H b y ∧ getw (augD m op a b) (fun z => Q0 z.1 z.2) ∧ GoQ X.K X.mg m F H Q0 Q) := by
  intro pins s σ H x y v u Q I rx ry h
  obtain ⟨m, F, a, b, Q0, R, hx, hy, hw, go⟩ := h
  unfold augD at hw
  split at hw
  · exact iop_add pins s σ H _ _ v u Q I rx ry ⟨_, _, hx, hy, go.go hw R rfl⟩
  · exact iop_sub pins s σ H _ _ v u Q I rx ry ⟨_, _, hx, hy, go.go hw R rfl⟩
  · split at hw
    · rename_i hl
      obtain ⟨hx, gx⟩ := hx
      obtain ⟨hy, gy⟩ := hy
      exact iop_add_str pins s σ H _ _ v u Q I rx ry ⟨_, _, hx, hy, by rw [mkS_len, mkS_len]; exact hl, go.go hw R ⟨by rw [mkS_app], gx.app gy hl⟩⟩
    · exact hw.elim
  · exact hw.elim
theorem MRep.len_le {K : PySem.W.Frag} {mg : Str → Option Value} {F : Addr → Prop} {H : Hp} {a : Addr} {xs : List D} (r : MRep K mg F H a (.lst xs)) : xs.length ≤ sizeLine := by
  obtain ⟨_, _, _, h⟩ := r; exact h
/-! ### walks -/
/-- J walks the items of ig, from the state (m, F, H) on -/
structure WalkD (K : PySem.W.Frag) (mg : Str → Option Value) (J : It) (xs : List D) (g : Option (Nat × List D)) (m0 : MH) (F0 : Addr → Prop) (H0 : Hp) : Prop where
  goes : ∀ i m F H, i < xs.length → Nx K mg m0 F0 H0 m F H → gOk m g → J.go i H
  stops : ∀ m F H, Nx K mg m0 F0 H0 m F H → gOk m g → J.stop xs.length H
  len : xs.length ≤ sizeLine
  yields : ∀ i m F H x H', i < xs.length → Nx K mg m0 F0 H0 m F H → gOk m g → J.yld i H x H' → ∃ d F', xs[i]? = some d ∧ Nx K mg m F H m F' H' ∧ Rep K mg F' H' d x
theorem rangeD_len (lo : Int) : ∀ n : Nat, (rangeD lo n).length = n := by
  intro n
  induction n generalizing lo with
  | zero => rfl
  | succ n ih => simp [rangeD, ih]
theorem rangeD_get : ∀ (n : Nat) (lo : Int) (i : Nat), i < n → (rangeD lo n)[i]? = some (.int (lo + i))
  | 0, _, _, h => absurd h (Nat.not_lt_zero _)
  | n + 1, lo, 0, _ => by simp [rangeD]
  | n + 1, lo, i + 1, h => by
    have := rangeD_get n (lo + 1) i (by omega)
    simp only [rangeD, List.getElem?_cons_succ]
    rw [this]
    congr 2
    omega
theorem enumD_len : ∀ (xs : List D) (i : Int), (enumD i xs).length = xs.length
  | [], _ => rfl
  | x :: r, i => by simp [enumD, enumD_len r]
theorem enumD_get : ∀ (xs : List D) (k : Int) (i : Nat) (d : D), xs[i]? = some d → (enumD k xs)[i]? = some (.tup [.int (k + i), d])
  | [], _, _, _, h => by simp at h
  | x :: r, k, 0, d, h => by simp at h; subst h; simp [enumD]
  | x :: r, k, i + 1, d, h => by
    have := enumD_get r (k + 1) i d (by simpa using h)
    simp only [enumD, List.getElem?_cons_succ]
    rw [this]
    have e : k + 1 + (i : Int) = k + ((i + 1 : Nat) : Int) := by omega
    rw [e]
section
variable {K : PySem.W.Frag} {mg : Str → Option Value} {m : MH} {F : Addr → Prop} {H : Hp} {a : Addr} {xs : List D} {vs : List V}
theorem wd_tup (t : TupAt K F H a vs) (r : Reps K mg F H xs vs) (hl : xs.length ≤ sizeLine) : WalkD K mg (Itt K a) xs none m F H := by
  have w := walk_tup (K := K) (a := a) (xs := vs)
  rw [← r.len] at w
  refine ⟨fun i m1 F1 H1 hi n _ => w.goes i H1 hi (t.ext n.ext).sq, fun m1 F1 H1 n _ => w.stops H1 (t.ext n.ext).sq, hl, fun i m1 F1 H1 x H' hi n _ y => ?_⟩
  obtain ⟨rfl, e⟩ := w.yields i H1 x H' hi (t.ext n.ext).sq y
  obtain ⟨d, e1, r1⟩ := (Reps.ext n.ext _ _ r).get' e
  exact ⟨d, F1, e1, .same n.rel, r1⟩
theorem wd_lst (hF : F a) (t : H a = some (.lst vs)) (r : Reps K mg F H xs vs) (hl : xs.length ≤ sizeLine) : WalkD K mg (Itl K a) xs none m F H := by
  have w := walk_list (K := K) (a := a) (xs := vs)
  rw [← r.len] at w
  have q : ∀ {m1 F1 H1}, Nx K mg m F H m1 F1 H1 → SqL K H1 a vs := fun n => .inl (.inl (n.ext _ _ hF t trivial).2)
  refine ⟨fun i m1 F1 H1 hi n _ => w.goes i H1 hi (q n), fun m1 F1 H1 n _ => w.stops H1 (q n), hl, fun i m1 F1 H1 x H' hi n _ y => ?_⟩
  obtain ⟨rfl, e⟩ := w.yields i H1 x H' hi (q n) y
  obtain ⟨d, e1, r1⟩ := (Reps.ext n.ext _ _ r).get' e
  exact ⟨d, F1, e1, .same n.rel, r1⟩
theorem wd_scr (t : ScrAt K F H a vs) (r : Reps K mg F H xs vs) (hl : xs.length ≤ sizeLine) : WalkD K mg (Itl K a) xs none m F H := by
  have w := walk_list (K := K) (a := a) (xs := vs)
  rw [← r.len] at w
  refine ⟨fun i m1 F1 H1 hi n _ => w.goes i H1 hi (t.ext n.ext).sq, fun m1 F1 H1 n _ => w.stops H1 (t.ext n.ext).sq, hl, fun i m1 F1 H1 x H' hi n _ y => ?_⟩
  obtain ⟨rfl, e⟩ := w.yields i H1 x H' hi (t.ext n.ext).sq y
  obtain ⟨d, e1, r1⟩ := (Reps.ext n.ext _ _ r).get' e
  exact ⟨d, F1, e1, .same n.rel, r1⟩
theorem wd_mut (R : RelH K mg m F H) (e0 : m a = some (.lst xs)) : WalkD K mg (Itl K a) xs (some (a, xs)) m F H := by
  have st : ∀ {m1 F1 H1}, Nx K mg m F H m1 F1 H1 → gOk m1 (some (a, xs)) → ∃ vs, SqL K H1 a vs ∧ Reps K mg F1 H1 xs vs := fun n g => by
    obtain ⟨vs, t, r, _⟩ := (n.rel _ _ g).2
    exact ⟨vs, .inl (.inl t), r⟩
  refine ⟨fun i m1 F1 H1 hi n g => ?_, fun m1 F1 H1 n g => ?_, (R _ _ e0).2.len_le, fun i m1 F1 H1 x H' hi n g y => ?_⟩
  · obtain ⟨vs, t, r⟩ := st n g
    exact walk_list.goes i H1 (by rw [← r.len]; exact hi) t
  · obtain ⟨vs, t, r⟩ := st n g
    rw [r.len]
    exact walk_list.stops H1 t
  · obtain ⟨vs, t, r⟩ := st n g
    obtain ⟨rfl, e⟩ := walk_list.yields i H1 x H' (by rw [← r.len]; exact hi) t y
    obtain ⟨d, e1, r1⟩ := r.get' e
    exact ⟨d, F1, e1, .same n.rel, r1⟩
theorem wd_str {s : List Nat} (R : RelH K mg m F H) (g : sGood s) : WalkD K mg (Its (mkS s)) (s.map fun c => .str [c]) none m F H := by
  have w := walk_str (z := mkS s)
  have hl : (mkS s).cps.size = (s.map fun c => D.str [c]).length := by rw [List.length_map]; exact mkS_len s
  rw [hl] at w
  refine ⟨fun i m1 F1 H1 hi n _ => w.goes i H1 hi trivial, fun m1 F1 H1 n _ => w.stops H1 trivial, (by rw [List.length_map]; exact g.1), fun i m1 F1 H1 x H' hi n _ y => ?_⟩
  obtain ⟨rfl, c, e, rfl⟩ := w.yields i H1 x H' hi trivial y
  have e' : s[i]? = some c := by
    have : (mkS s).cps[i]? = s[i]? := by show s.toArray[i]? = _; simp
    rw [← this]; exact e
  have sl : sizeLine = 16777216 := sizeLine_eq
  exact ⟨.str [c], F1, by rw [List.getElem?_map, e']; rfl, .same n.rel, rfl, by show 1 ≤ sizeLine; omega, fun d hd => by rw [List.mem_singleton.mp hd]; exact g.2 c (List.mem_of_getElem? e')⟩
theorem wd_range {lo : Int} {n : Nat} (R : RelH K mg m F H) (hl : n ≤ sizeLine) : WalkD K mg (Itr lo n) (rangeD lo n) none m F H := by
  have w := walk_range (lo := lo) (n := n)
  refine ⟨fun i m1 F1 H1 hi n _ => w.goes i H1 (by rw [rangeD_len] at hi; exact hi) trivial, fun m1 F1 H1 n _ => by rw [rangeD_len]; exact w.stops H1 trivial, (by rw [rangeD_len]; exact hl), fun i m1 F1 H1 x H' hi nx _ y => ?_⟩
  rw [rangeD_len] at hi
  obtain ⟨rfl, rfl⟩ := w.yields i H1 x H' hi trivial y
  exact ⟨.int (lo + i), F1, rangeD_get n lo i hi, .same nx.rel, rfl⟩
theorem pair_new {d : D} {i : Nat} {T : Addr} {x : V} (R : RelH K mg m F H) (hT : H T = none) (r : Rep K mg F H d x) :
    Nx K mg m F H m (addF F T) (upd H T (.tup [.int (i : Nat), x])) ∧ Rep K mg (addF F T) (upd H T (.tup [.int (i : Nat), x])) (.tup [.int (0 + (i : Nat)), d]) (.ref T) := by
  refine Nx.newTup R hT (Reps.cons ?_ (Reps.one r)) (by show 2 ≤ sizeLine; rw [sizeLine_eq]; omega)
  show V.int _ = V.int _
  rw [Int.zero_add]
theorem wd_enT (t : TupAt K F H a vs) (r : Reps K mg F H xs vs) (hl : xs.length ≤ sizeLine) : WalkD K mg (ItN K a) (enumD 0 xs) none m F H := by
  have w := walkN (K := K) (a := a) (xs := vs)
  rw [← r.len, ← enumD_len xs 0] at w
  refine ⟨fun i m1 F1 H1 hi n _ => w.goes i H1 hi (t.ext n.ext).sq, fun m1 F1 H1 n _ => w.stops H1 (t.ext n.ext).sq, (by rw [enumD_len]; exact hl), fun i m1 F1 H1 x H' hi n _ y => ?_⟩
  obtain ⟨T, u, z, rfl, hT, rfl, e1, e2⟩ := w.yields i H1 x H' hi (t.ext n.ext).sq y
  obtain rfl : V.int (i : Nat) = u := Option.some.inj e1
  obtain ⟨d, e3, r1⟩ := (Reps.ext n.ext _ _ r).get' e2
  obtain ⟨n2, r2⟩ := pair_new (i := i) n.rel hT r1
  exact ⟨_, _, enumD_get xs 0 i d e3, n2, r2⟩
theorem wd_enL (hF : F a) (t : H a = some (.lst vs)) (r : Reps K mg F H xs vs) (hl : xs.length ≤ sizeLine) : WalkD K mg (Ite K a) (enumD 0 xs) none m F H := by
  have w := walk_enum (K := K) (a := a) (xs := vs)
  rw [← r.len, ← enumD_len xs 0] at w
  have q : ∀ {m1 F1 H1}, Nx K mg m F H m1 F1 H1 → SqL K H1 a vs := fun n => .inl (.inl (n.ext _ _ hF t trivial).2)
  refine ⟨fun i m1 F1 H1 hi n _ => w.goes i H1 hi (q n), fun m1 F1 H1 n _ => w.stops H1 (q n), (by rw [enumD_len]; exact hl), fun i m1 F1 H1 x H' hi n _ y => ?_⟩
  obtain ⟨T, u, z, rfl, hT, rfl, e1, e2⟩ := w.yields i H1 x H' hi (q n) y
  obtain rfl : V.int (i : Nat) = u := Option.some.inj e1
  obtain ⟨d, e3, r1⟩ := (Reps.ext n.ext _ _ r).get' e2
  obtain ⟨n2, r2⟩ := pair_new (i := i) n.rel hT r1
  exact ⟨_, _, enumD_get xs 0 i d e3, n2, r2⟩
theorem wd_enM (R : RelH K mg m F H) (e0 : m a = some (.lst xs)) : WalkD K mg (Ite K a) (enumD 0 xs) (some (a, xs)) m F H := by
  have st : ∀ {m1 F1 H1}, Nx K mg m F H m1 F1 H1 → gOk m1 (some (a, xs)) → ∃ vs, SqL K H1 a vs ∧ Reps K mg F1 H1 xs vs := fun n g => by
    obtain ⟨vs, t, r, _⟩ := (n.rel _ _ g).2
    exact ⟨vs, .inl (.inl t), r⟩
  refine ⟨fun i m1 F1 H1 hi n g => ?_, fun m1 F1 H1 n g => ?_, (by rw [enumD_len]; exact (R _ _ e0).2.len_le), fun i m1 F1 H1 x H' hi n g y => ?_⟩
  · obtain ⟨vs, t, r⟩ := st n g
    exact walk_enum.goes i H1 (by rw [← r.len, ← enumD_len xs 0]; exact hi) t
  · obtain ⟨vs, t, r⟩ := st n g
    rw [enumD_len, r.len]
    exact walk_enum.stops H1 t
  · obtain ⟨vs, t, r⟩ := st n g
    obtain ⟨T, u, z, rfl, hT, rfl, e1, e2⟩ := walk_enum.yields i H1 x H' (by rw [← r.len, ← enumD_len xs 0]; exact hi) t y
    obtain rfl : V.int (i : Nat) = u := Option.some.inj e1
    obtain ⟨d, e3, r1⟩ := r.get' e2
    obtain ⟨n2, r2⟩ := pair_new (i := i) n.rel hT r1
    exact ⟨_, _, enumD_get xs 0 i d e3, n2, r2⟩
end
end
end PT
end
section
set_option linter.all false
set_option maxRecDepth 100000
set_option maxHeartbeats 4000000
/-! PtG: readings of the small syntax, the rules of expressions. -/
namespace PT
open PySem PySem.Spec PyProof.Rows L2

/-- an exception as it lies -/
def RepX (K : PySem.W.Frag) (mg : Str → Option Value) (F : Addr → Prop) (H : Hp) (x : Xn) (cls : Value) (dd : Option Addr) : Prop :=
  (∃ C, XcAt K mg x.c C ∧ cls = .ref C) ∧ ∃ us, Reps K mg F H (x.fs.map (·.2)) us ∧ XDict F H dd (((x.fs.map (·.1)).map Str.ofString).zip us)
section
variable (X : Cx) (W : WX)
abbrev At (ρ : Env0) (m : MH) (F : Addr → Prop) (σ : L2.St) (H : Hp) : Prop := REnv X.K X.mg F H ρ σ ∧ RelH X.K X.mg m F H
def GoX (σ : L2.St) (m : MH) (F : Addr → Prop) (H : Hp) (E0 : QX) : Prop := ∀ x m' F' cls dd H', E0 x m' → Nx X.K X.mg m F H m' F' H' → RepX X.K X.mg F' H' x cls dd → W cls dd σ H'
abbrev WE0 := Env0 → MH → QD → QX → Prop
abbrev WA0 := Env0 → MH → (List D → MH → Prop) → QX → Prop
abbrev WT0 := Env0 → MH → (Bool → MH → Prop) → QX → Prop
abbrev WP0 := Env0 → MH → (Option Int → MH → Prop) → QX → Prop
/-- an expression's reading -/
def RdE (w : WE0) : TE := fun σ H Q => ∃ ρ m F Q0 E0, At X ρ m F σ H ∧ w ρ m Q0 E0 ∧ GoQ X.K X.mg m F H Q0 Q ∧ GoX X W σ m F H E0
def RdT (w : WT0) : TT := fun σ H Q => ∃ ρ m F Q0 E0, At X ρ m F σ H ∧ w ρ m Q0 E0 ∧ (∀ b m' F' H', Q0 b m' → Nx X.K X.mg m F H m' F' H' → Q b H') ∧ GoX X W σ m F H E0
def RdA (n : Nat) (w : WA0) : TA := fun σ H Q => ∃ ρ m F Q0 E0, At X ρ m F σ H ∧ w ρ m Q0 E0 ∧ (∀ ds m' F' vs H', ds.length = n → Q0 ds m' → Nx X.K X.mg m F H m' F' H' → Reps X.K X.mg F' H' ds vs → Q vs H') ∧ GoX X W σ m F H E0
def RdP (w : WP0) : TO := fun σ H Q => ∃ ρ m F Q0 E0, At X ρ m F σ H ∧ w ρ m Q0 E0 ∧ (∀ o m' F' H', Q0 o m' → Nx X.K X.mg m F H m' F' H' → Q o H') ∧ GoX X W σ m F H E0
end
section
variable {X : Cx} {W : WX} {ρ : Env0} {m m1 : MH} {F F1 : Addr → Prop} {σ : L2.St} {H H1 : Hp} {E0 : QX}
theorem At.env (a : At X ρ m F σ H) : REnv X.K X.mg F H ρ σ := a.1
theorem At.rel (a : At X ρ m F σ H) : RelH X.K X.mg m F H := a.2
theorem At.nx (a : At X ρ m F σ H) (n : Nx X.K X.mg m F H m1 F1 H1) : At X ρ m1 F1 σ H1 := ⟨a.env.ext n.ext, n.rel⟩
theorem GoX.nx (g : GoX X W σ m F H E0) (n : Nx X.K X.mg m F H m1 F1 H1) : GoX X W σ m1 F1 H1 E0 := fun x m' F' cls dd H' e n' r => g x m' F' cls dd H' e (n.trans n') r
theorem PE.imp {e : Expr} {t t' : TE} (h : PE X e t) (hi : ∀ σ H Q, t' σ H Q → t σ H Q) : PE X e t' := ⟨fun pins s σ H Q I q => h.run pins s σ H Q I (hi _ _ _ q)⟩
theorem PT.imp {e : Expr} {t t' : TT} (h : L2.PT X e t) (hi : ∀ σ H Q, t' σ H Q → t σ H Q) : L2.PT X e t' := ⟨fun pins s σ H Q I q => h.run pins s σ H Q I (hi _ _ _ q)⟩
theorem PW.imp {e : Expr} {t t' : TT} (h : PW X e t) (hi : ∀ σ H Q, t' σ H Q → t σ H Q) : PW X e t' := ⟨fun wh pins s σ H Q I q => h.run wh pins s σ H Q I (hi _ _ _ q)⟩
theorem PA.imp {e : List Expr} {t t' : TA} (h : PA X e t) (hi : ∀ σ H Q, t' σ H Q → t σ H Q) : PA X e t' := ⟨fun pos pins s σ H Q I q => h.run pos pins s σ H Q I (hi _ _ _ q)⟩
theorem PO.imp {e : Option Expr} {t t' : TO} (h : PO X e t) (hi : ∀ σ H Q, t' σ H Q → t σ H Q) : PO X e t' := ⟨fun pins s σ H Q I q => h.run pins s σ H Q I (hi _ _ _ q)⟩
theorem PS.imp {e : Stmt} {t t' : TS} (h : PS X e t) (hi : ∀ D σ H, t' D σ H → t D σ H) : PS X e t' := ⟨fun pins s σ H D I q => h.run pins s σ H D I (hi _ _ _ q)⟩
theorem PSs.imp {e : List Stmt} {t t' : TS} (h : PSs X e t) (hi : ∀ D σ H, t' D σ H → t D σ H) : PSs X e t' := ⟨fun pins s σ H D I q => h.run pins s σ H D I (hi _ _ _ q)⟩
theorem PI.imp {tg e : Expr} {t t' : TI} (h : PI X tg e t) (hi : ∀ σ H R, t' σ H R → t σ H R) : PI X tg e t' := ⟨fun pins s σ H R I q => h.run pins s σ H R I (hi _ _ _ q)⟩
end
/-! ### rules by readings -/
section
variable {X : Cx} {W : WX} {a b c e : Expr} {wa wb wc : WE0} {es : List Expr} {ws : WA0} {pos : Pos}
/-- one value, then Q -/
theorem rd1 {σ : L2.St} {H : Hp} {Q : VK} {ρ : Env0} {m : MH} {F : Addr → Prop} {E0 : QX} {K0 : QD} (A : At X ρ m F σ H) (h : wa ρ m K0 E0) (gx : GoX X W σ m F H E0)
    (k : ∀ d m' F' v H', K0 d m' → Nx X.K X.mg m F H m' F' H' → Rep X.K X.mg F' H' d v → Q v H') : RdE X W wa σ H Q := ⟨ρ, m, F, K0, E0, A, h, k, gx⟩
theorem ge_var {i : Nat} {x : Str} (hN : X.N[i]? = some x) (hv : Vis X.env.scope x) (hd : (x == ("__debug__" : Str)) = false) (hcd : (x == ("__classdict__" : Str)) = false) : PE X (.Name x pos) (RdE X W fun ρ m Q _ => getw (slot ρ i) fun d => Q d m) := by
  refine PE.imp (pe_var hN hv hd hcd) fun σ H Q ⟨ρ, m, F, Q0, E0, A, h, g, gx⟩ => ?_
  obtain ⟨d, e, q⟩ := getw_iff.mp h
  obtain ⟨v, e1, r⟩ := A.env.2 i d e
  exact ⟨v, e1, g.go q A.rel r⟩
/-- a fixed value -/
theorem ge_con {d : D} {v : V} {t : TE} (h : PE X e t) (ht : ∀ σ H Q, Q v H → t σ H Q) (r : ∀ F H, Rep X.K X.mg F H d v) : PE X e (RdE X W fun _ m Q _ => Q d m) :=
  PE.imp h fun σ H Q ⟨ρ, m, F, Q0, E0, A, q, g, gx⟩ => ht _ _ _ (g.go q A.rel (r F H))
theorem ga_nil : PA X [] (RdA X W 0 fun _ m Q _ => Q [] m) := PA.imp pa_nil fun σ H Q ⟨ρ, m, F, Q0, E0, A, q, g, gx⟩ => g [] m F [] H rfl q (.same A.rel) rfl
theorem ga_cons {n : Nat} (ha : PE X e (RdE X W wa)) (hr : PA X es (RdA X W n ws)) (hs : starEach (e :: es) X.env = (false, eval e X.env) :: starEach es X.env) :
    PA X (e :: es) (RdA X W (n + 1) fun ρ m Q E => wa ρ m (fun d m1 => ws ρ m1 (fun ds m2 => Q (d :: ds) m2) E) E) :=
  PA.imp (pa_cons ha hr hs) fun σ H Q ⟨ρ, m, F, Q0, E0, A, q, g, gx⟩ => rd1 A q gx fun d m1 F1 v H1 q1 n1 r1 =>
    ⟨ρ, m1, F1, _, E0, A.nx n1, q1, fun ds m2 F2 vs H2 l2 q2 n2 r2 => g (d :: ds) m2 F2 (v :: vs) H2 (congrArg Nat.succ l2) q2 (n1.trans n2) ⟨v, vs, rfl, Rep.ext n2.ext _ _ r1, r2⟩, gx.nx n1⟩
/-- many values, then a thing -/
theorem ge_args {t : TE} {n : Nat} {f : List D → MH → QD → QX → Prop} (h : PE X e t) (ht : ∀ σ H Q, RdA X W n ws σ H (fun vs H1 => ∃ ds m F Q0 E0, ds.length = n ∧ Reps X.K X.mg F H1 ds vs ∧ RelH X.K X.mg m F H1 ∧ f ds m Q0 E0 ∧ GoQ X.K X.mg m F H1 Q0 Q ∧ GoX X W σ m F H1 E0) → t σ H Q) :
    PE X e (RdE X W fun ρ m Q E => ws ρ m (fun ds m1 => f ds m1 Q E) E) :=
  PE.imp h fun σ H Q ⟨ρ, m, F, Q0, E0, A, q, g, gx⟩ => ht _ _ _ ⟨ρ, m, F, _, E0, A, q, fun ds m1 F1 vs H1 l1 q1 n1 r1 => ⟨ds, m1, F1, Q0, E0, l1, r1, n1.rel, q1, g.nx n1, gx.nx n1⟩, gx⟩
theorem ra_imp {n : Nat} {σ : L2.St} {H : Hp} {Q Q' : List V → Hp → Prop} (h : RdA X W n ws σ H Q) (hi : ∀ vs H', Q vs H' → Q' vs H') : RdA X W n ws σ H Q' :=
  let ⟨ρ, m, F, Q0, E0, A, q, g, gx⟩ := h; ⟨ρ, m, F, Q0, E0, A, q, fun ds m' F' vs H' l a b c => hi _ _ (g ds m' F' vs H' l a b c), gx⟩
/-- (a, b, ..) -/
theorem ge_tup {x1} {n : Nat} (h : PA X es (RdA X W n ws)) (hl : n ≤ sizeLine) : PE X (.Tuple es x1 pos) (RdE X W fun ρ m Q E => ws ρ m (fun ds m1 => Q (.tup ds) m1) E) :=
  PE.imp (pe_tup h) fun σ H Q ⟨ρ, m, F, Q0, E0, A, q, g, gx⟩ => ⟨ρ, m, F, _, E0, A, q, fun ds m1 F1 vs H1 l1 q1 n1 r1 => ⟨by rw [← r1.len, l1]; exact hl, fun p hp => by
    obtain ⟨n2, r2⟩ := Nx.newTup n1.rel hp r1 (by rw [l1]; exact hl)
    exact g _ _ _ _ _ q1 (n1.trans n2) r2⟩, gx⟩
theorem ge_lst {n : Nat} (h : PA X es (RdA X W n ws)) (hl : n ≤ sizeLine) : PE X (.List es pos) (RdE X W fun ρ m Q E => ws ρ m (fun ds m1 => Q (.lst ds) m1) E) :=
  PE.imp (pe_lst h) fun σ H Q ⟨ρ, m, F, Q0, E0, A, q, g, gx⟩ => ⟨ρ, m, F, _, E0, A, q, fun ds m1 F1 vs H1 l1 q1 n1 r1 => ⟨by rw [← r1.len, l1]; exact hl, fun p hp => by
    obtain ⟨n2, r2⟩ := Nx.newLst n1.rel hp r1 (by rw [l1]; exact hl)
    exact g _ _ _ _ _ q1 (n1.trans n2) r2⟩, gx⟩
theorem ge_newl {n : Nat} (h : PA X es (RdA X W n ws)) (hl : n ≤ sizeLine) : PE X (.List es pos) (RdE X W fun ρ m Q E => ws ρ m (fun ds m1 => ∀ p, m1 p = none → Q (.ref p) (m1.set p (.lst ds))) E) :=
  PE.imp (pe_lst h) fun σ H Q ⟨ρ, m, F, Q0, E0, A, q, g, gx⟩ => ⟨ρ, m, F, _, E0, A, q, fun ds m1 F1 vs H1 l1 q1 n1 r1 => ⟨by rw [← r1.len, l1]; exact hl, fun p hp =>
    g _ _ _ _ _ (q1 p (n1.rel.free hp)) (n1.trans (Nx.newMut n1.rel hp r1 (by rw [l1]; exact hl))) rfl⟩, gx⟩
theorem rd2 {σ : L2.St} {H : Hp} {Q : VK} {ρ : Env0} {m : MH} {F : Addr → Prop} {Q0 : QD} {E0 : QX} {f : MH → D → D → Option D} (A : At X ρ m F σ H)
    (h : wa ρ m (fun x m1 => wb ρ m1 (fun y m2 => getw (f m2 x y) fun z => Q0 z m2) E0) E0) (g : GoQ X.K X.mg m F H Q0 Q) (gx : GoX X W σ m F H E0) : tOp (V2 X f) (RdE X W wa) (RdE X W wb) σ H Q :=
  rd1 A h gx fun x m1 F1 v H1 q1 n1 r1 => rd1 (A.nx n1) q1 (gx.nx n1) fun y m2 F2 w H2 q2 n2 r2 => ⟨m2, F2, x, y, Q0, n2.rel, Rep.ext n2.ext _ _ r1, r2, q2, (g.nx n1).nx n2⟩
theorem ge_bin {op : BOp} (ha : PE X a (RdE X W wa)) (hb : PE X b (RdE X W wb)) : PE X (.BinOp a (bopOf op) b pos) (RdE X W fun ρ m Q E => wa ρ m (fun x m1 => wb ρ m1 (fun y m2 => getw (binD m2 op x y) fun z => Q z m2) E) E) :=
  PE.imp (pe_op (op_binD op) ha hb) fun σ H Q ⟨ρ, m, F, Q0, E0, A, q, g, gx⟩ => rd2 A q g gx
theorem ge_ix (ha : PE X a (RdE X W wa)) (hb : PE X b (RdE X W wb)) (hs : PlainIx b) : PE X (.Subscript a b pos) (RdE X W fun ρ m Q E => wa ρ m (fun x m1 => wb ρ m1 (fun y m2 => getw (atD m2 x y) fun z => Q z m2) E) E) :=
  PE.imp (pe_ix ix_D ha hb hs) fun σ H Q ⟨ρ, m, F, Q0, E0, A, q, g, gx⟩ => rd2 A q g gx
theorem getw_map {α β : Type} {o : Option α} {f : α → β} {k : β → Prop} : getw (o.map f) k = getw o fun a => k (f a) := by cases o <;> rfl
theorem ge_cmp {op : COp} (hu : X.A.units + 64 < cLine) (ha : PE X a (RdE X W wa)) (hb : PE X b (RdE X W wb)) (hm : behindInMarks (copOf op) b = false) :
    PE X (.Compare a [copOf op] [b] pos) (RdE X W fun ρ m Q E => wa ρ m (fun x m1 => wb ρ m1 (fun y m2 => getw (cmpD m2 op x y) fun z => Q (.bl z) m2) E) E) :=
  PE.imp (pe_cmpR (op_cmpD hu op) ha hb hm) fun σ H Q ⟨ρ, m, F, Q0, E0, A, q, g, gx⟩ => rd2 (f := fun m x y => (cmpD m op x y).map .bl) A (by simpa only [getw_map] using q) g gx
theorem ge_cmp2 {op op' : COp} (hu : X.A.units + 64 < cLine) (ha : PE X a (RdE X W wa)) (hb : PE X b (RdE X W wb)) (hc : PE X c (RdE X W wc)) (hm : lastMarks [copOf op, copOf op'] [b, c] = false) :
    PE X (.Compare a [copOf op, copOf op'] [b, c] pos) (RdE X W fun ρ m Q E => wa ρ m (fun x m1 => wb ρ m1 (fun y m2 => getw (cmpD m2 op x y) fun z =>
      if z = true then wc ρ m2 (fun u m3 => getw (cmpD m3 op' y u) fun z' => Q (.bl z') m3) E else Q (.bl false) m2) E) E) :=
  PE.imp (pe_chain (op_cmpD hu op) (op_cmpD hu op') ha hb hc hm) fun σ H Q ⟨ρ, m, F, Q0, E0, A, q, g, gx⟩ => by
    refine rd1 A q gx fun x m1 F1 v H1 q1 n1 r1 => rd1 (A.nx n1) q1 (gx.nx n1) fun y m2 F2 w H2 q2 n2 r2 => ?_
    obtain ⟨z, e, q3⟩ := getw_iff.mp q2
    refine ⟨m2, F2, x, y, fun d m' => d = .bl z ∧ m' = m2, n2.rel, Rep.ext n2.ext _ _ r1, r2, by simp [getw_map, e], ?_⟩
    rintro d m' F3 v3 H3 ⟨rfl, rfl⟩ n3 r3
    have r3 : v3 = .bl z := r3
    subst r3
    refine ⟨z, rfl, ?_⟩
    cases z with
    | false => exact g _ _ _ _ _ q3 (n1.trans (n2.trans n3)) rfl
    | true =>
      refine rd1 (A.nx (n1.trans (n2.trans n3))) q3 (gx.nx (n1.trans (n2.trans n3))) fun u m4 F4 w4 H4 q4 n4 r4 => ⟨m4, F4, y, u, Q0, n4.rel, Rep.ext (n3.trans n4).ext _ _ r2, r4, ?_, g.nx ((n1.trans (n2.trans n3)).trans n4)⟩
      show getw ((cmpD m4 op' y u).map D.bl) _
      rw [getw_map]; exact q4
theorem ge_neg (ha : PE X a (RdE X W wa)) : PE X (.UnaryOp .USub a pos) (RdE X W fun ρ m Q E => wa ρ m (fun x m1 => match x with | .int i => Q (.int (-i)) m1 | _ => False) E) :=
  PE.imp (pe_un un_neg ha) fun σ H Q ⟨ρ, m, F, Q0, E0, A, q, g, gx⟩ => rd1 A q gx fun x m1 F1 v H1 q1 n1 r1 => by
    cases x with
    | int i =>
      cases r1
      exact ⟨i, rfl, g _ _ _ _ _ q1 n1 rfl⟩
    | _ => exact q1.elim
theorem ge_one {op} (h : PE X a (RdE X W wa)) : PE X (.BoolOp op [a] pos) (RdE X W wa) := pe_one h
theorem ge_or {rest} (ha : PE X a (RdE X W wa)) (hb : PE X (.BoolOp .Or (b :: rest) pos) (RdE X W wb)) :
    PE X (.BoolOp .Or (a :: b :: rest) pos) (RdE X W fun ρ m Q E => wa ρ m (fun x m1 => getw (truD m1 x) fun t => if t = true then Q x m1 else wb ρ m1 Q E) E) :=
  PE.imp (pe_orT ha hb) fun σ H Q ⟨ρ, m, F, Q0, E0, A, q, g, gx⟩ => rd1 A q gx fun x m1 F1 v H1 q1 n1 r1 => by
    obtain ⟨t, e, q2⟩ := getw_iff.mp q1
    refine ⟨t, truD_rep n1.rel r1 e, ?_⟩
    cases t with
    | true => exact g _ _ _ _ _ q2 n1 r1
    | false => exact ⟨ρ, m1, F1, Q0, E0, A.nx n1, q2, g.nx n1, gx.nx n1⟩
theorem ge_and {rest} (ha : PE X a (RdE X W wa)) (hb : PE X (.BoolOp .And (b :: rest) pos) (RdE X W wb)) :
    PE X (.BoolOp .And (a :: b :: rest) pos) (RdE X W fun ρ m Q E => wa ρ m (fun x m1 => getw (truD m1 x) fun t => if t = true then wb ρ m1 Q E else Q x m1) E) :=
  PE.imp (pe_andT ha hb) fun σ H Q ⟨ρ, m, F, Q0, E0, A, q, g, gx⟩ => rd1 A q gx fun x m1 F1 v H1 q1 n1 r1 => by
    obtain ⟨t, e, q2⟩ := getw_iff.mp q1
    refine ⟨t, truD_rep n1.rel r1 e, ?_⟩
    cases t with
    | false => exact g _ _ _ _ _ q2 n1 r1
    | true => exact ⟨ρ, m1, F1, Q0, E0, A.nx n1, q2, g.nx n1, gx.nx n1⟩
theorem ge_not (ha : PE X a (RdE X W wa)) : PE X (.UnaryOp .Not a pos) (RdE X W fun ρ m Q E => wa ρ m (fun x m1 => getw (truD m1 x) fun t => Q (.bl (!t)) m1) E) :=
  PE.imp (pe_notT ha) fun σ H Q ⟨ρ, m, F, Q0, E0, A, q, g, gx⟩ => rd1 A q gx fun x m1 F1 v H1 q1 n1 r1 => by
    obtain ⟨t, e, q2⟩ := getw_iff.mp q1
    exact ⟨t, truD_rep n1.rel r1 e, g _ _ _ _ _ q2 n1 rfl⟩
/-- a test's reading -/
def wB (w : WE0) : WT0 := fun ρ m K E => w ρ m (fun x m1 => getw (truD m1 x) fun t => K t m1) E
theorem ge_ite {t : WT0} (hc : L2.PT X c (RdT X W t)) (ha : PE X a (RdE X W wa)) (hb : PE X b (RdE X W wb)) :
    PE X (.IfExp c a b pos) (RdE X W fun ρ m Q E => t ρ m (fun k m1 => if k = true then wa ρ m1 Q E else wb ρ m1 Q E) E) :=
  PE.imp (pe_ifExp hc ha hb) fun σ H Q ⟨ρ, m, F, Q0, E0, A, q, g, gx⟩ => ⟨ρ, m, F, _, E0, A, q, fun k m1 F1 H1 q1 n1 => by
    cases k with
    | true => exact ⟨ρ, m1, F1, Q0, E0, A.nx n1, q1, g.nx n1, gx.nx n1⟩
    | false => exact ⟨ρ, m1, F1, Q0, E0, A.nx n1, q1, g.nx n1, gx.nx n1⟩, gx⟩
/-! ### tests -/
theorem gt_truth (ha : PE X a (RdE X W wa)) (he : ∀ whole, isTrue a X.env whole = (do let v ← whole; standAt a.pos; holding [v] (truthy v))) : L2.PT X a (RdT X W (wB wa)) :=
  PT.imp (pt_truth ha he) fun σ H Q ⟨ρ, m, F, Q0, E0, A, q, g, gx⟩ => rd1 A q gx fun x m1 F1 v H1 q1 n1 r1 => by
    obtain ⟨t, e, q2⟩ := getw_iff.mp q1
    exact ⟨t, truD_rep n1.rel r1 e, g _ _ _ _ q2 n1⟩
theorem gt_not {t : WT0} (ha : L2.PT X a (RdT X W t)) : L2.PT X (.UnaryOp .Not a pos) (RdT X W fun ρ m K E => t ρ m (fun k m1 => K (!k) m1) E) :=
  PT.imp (pt_not ha) fun σ H Q ⟨ρ, m, F, Q0, E0, A, q, g, gx⟩ => ⟨ρ, m, F, _, E0, A, q, fun k m1 F1 H1 q1 n1 => g _ _ _ _ q1 n1, gx⟩
theorem gw_and1 {t : WT0} (ha : L2.PT X a (RdT X W t)) : PW X (.BoolOp .And [a] pos) (RdT X W t) := pw_and1 ha
theorem gw_or1 {t : WT0} (ha : L2.PT X a (RdT X W t)) : PW X (.BoolOp .Or [a] pos) (RdT X W t) := pw_or1 ha
theorem gw_and {t u : WT0} {rest} (ha : L2.PT X a (RdT X W t)) (hb : PW X (.BoolOp .And (b :: rest) pos) (RdT X W u)) :
    PW X (.BoolOp .And (a :: b :: rest) pos) (RdT X W fun ρ m K E => t ρ m (fun k m1 => if k = true then u ρ m1 K E else K false m1) E) :=
  PW.imp (pw_and ha hb) fun σ H Q ⟨ρ, m, F, Q0, E0, A, q, g, gx⟩ => ⟨ρ, m, F, _, E0, A, q, fun k m1 F1 H1 q1 n1 => by
    cases k with
    | true => exact ⟨ρ, m1, F1, Q0, E0, A.nx n1, q1, fun k' m2 F2 H2 q2 n2 => g _ _ _ _ q2 (n1.trans n2), gx.nx n1⟩
    | false => exact g _ _ _ _ q1 n1, gx⟩
theorem gw_or {t u : WT0} {rest} (ha : L2.PT X a (RdT X W t)) (hb : PW X (.BoolOp .Or (b :: rest) pos) (RdT X W u)) :
    PW X (.BoolOp .Or (a :: b :: rest) pos) (RdT X W fun ρ m K E => t ρ m (fun k m1 => if k = true then K true m1 else u ρ m1 K E) E) :=
  PW.imp (pw_or ha hb) fun σ H Q ⟨ρ, m, F, Q0, E0, A, q, g, gx⟩ => ⟨ρ, m, F, _, E0, A, q, fun k m1 F1 H1 q1 n1 => by
    cases k with
    | false => exact ⟨ρ, m1, F1, Q0, E0, A.nx n1, q1, fun k' m2 F2 H2 q2 n2 => g _ _ _ _ q2 (n1.trans n2), gx.nx n1⟩
    | true => exact g _ _ _ _ q1 n1, gx⟩
theorem pt_ifExp {ta tb tc : TT} (hc : L2.PT X c tc) (ha : L2.PT X a ta) (hb : L2.PT X b tb) : L2.PT X (.IfExp c a b pos) (fun σ H Q => tc σ H fun k H1 => if k = true then ta σ H1 Q else tb σ H1 Q) := by
  refine ⟨fun pins s σ H Q I h => isTrue_IfExp (thn (hc.run pins s σ H _ I h) fun k s1 ⟨H1, I1, q1⟩ => ?_)⟩
  cases k with
  | true => exact ha.run pins s1 σ H1 Q I1 q1
  | false => exact hb.run pins s1 σ H1 Q I1 q1
theorem gt_ite {t u v : WT0} (hc : L2.PT X c (RdT X W t)) (ha : L2.PT X a (RdT X W u)) (hb : L2.PT X b (RdT X W v)) :
    L2.PT X (.IfExp c a b pos) (RdT X W fun ρ m K E => t ρ m (fun k m1 => if k = true then u ρ m1 K E else v ρ m1 K E) E) :=
  PT.imp (pt_ifExp hc ha hb) fun σ H Q ⟨ρ, m, F, Q0, E0, A, q, g, gx⟩ => ⟨ρ, m, F, _, E0, A, q, fun k m1 F1 H1 q1 n1 => by
    cases k with
    | true => exact ⟨ρ, m1, F1, Q0, E0, A.nx n1, q1, fun k' m2 F2 H2 q2 n2 => g _ _ _ _ q2 (n1.trans n2), gx.nx n1⟩
    | false => exact ⟨ρ, m1, F1, Q0, E0, A.nx n1, q1, fun k' m2 F2 H2 q2 n2 => g _ _ _ _ q2 (n1.trans n2), gx.nx n1⟩, gx⟩
theorem gt_cmp {op : COp} (hu : X.A.units + 64 < cLine) (ha : PE X a (RdE X W wa)) (hb : PE X b (RdE X W wb)) (hm : behindInMarks (copOf op) b = false) :
    L2.PT X (.Compare a [copOf op] [b] pos) (RdT X W fun ρ m K E => wa ρ m (fun x m1 => wb ρ m1 (fun y m2 => getw (cmpD m2 op x y) fun z => K z m2) E) E) :=
  PT.imp (pt_cmpR (op_cmpD hu op) ha hb hm) fun σ H Q ⟨ρ, m, F, Q0, E0, A, q, g, gx⟩ => by
    refine rd2 (f := fun m x y => (cmpD m op x y).map .bl) (Q0 := fun d m' => ∃ k, d = .bl k ∧ Q0 k m') A ?_ (fun d m' F' v H' ⟨k, e, q⟩ n r => ?_) gx
    · simp only [getw_map, D.bl.injEq, exists_eq_left']; exact q
    · subst e
      exact ⟨k, r, g _ _ _ _ q n⟩
theorem gt_cmp2 {op op' : COp} (hu : X.A.units + 64 < cLine) (ha : PE X a (RdE X W wa)) (hb : PE X b (RdE X W wb)) (hc : PE X c (RdE X W wc)) (hm : lastMarks [copOf op, copOf op'] [b, c] = false) :
    L2.PT X (.Compare a [copOf op, copOf op'] [b, c] pos) (RdT X W fun ρ m K E => wa ρ m (fun x m1 => wb ρ m1 (fun y m2 => getw (cmpD m2 op x y) fun z =>
      if z = true then wc ρ m2 (fun u m3 => getw (cmpD m3 op' y u) fun z' => K z' m3) E else K false m2) E) E) :=
  PT.imp (pt_chain (op_cmpD hu op) (op_cmpD hu op') ha hb hc hm) fun σ H Q ⟨ρ, m, F, Q0, E0, A, q, g, gx⟩ => by
    refine rd1 A q gx fun x m1 F1 v H1 q1 n1 r1 => rd1 (A.nx n1) q1 (gx.nx n1) fun y m2 F2 w H2 q2 n2 r2 => ?_
    obtain ⟨z, e, q3⟩ := getw_iff.mp q2
    refine ⟨m2, F2, x, y, fun d m' => d = .bl z ∧ m' = m2, n2.rel, Rep.ext n2.ext _ _ r1, r2, by simp [getw_map, e], ?_⟩
    rintro d m' F3 v3 H3 ⟨rfl, rfl⟩ n3 r3
    have r3 : v3 = .bl z := r3
    subst r3
    refine ⟨z, rfl, ?_⟩
    cases z with
    | false => exact ⟨false, rfl, g _ _ _ _ q3 (n1.trans (n2.trans n3))⟩
    | true =>
      refine rd1 (A.nx (n1.trans (n2.trans n3))) q3 (gx.nx (n1.trans (n2.trans n3))) fun u m4 F4 w4 H4 q4 n4 r4 => ⟨m4, F4, y, u, fun d m' => ∃ k, d = .bl k ∧ Q0 k m', n4.rel, Rep.ext (n3.trans n4).ext _ _ r2, r4, ?_, fun d m' F' v H' ⟨k, e, q⟩ n r => ?_⟩
      · show getw ((cmpD m4 op' y u).map D.bl) _
        simp only [getw_map, D.bl.injEq, exists_eq_left']; exact q4
      · subst e
        exact ⟨k, r, g _ _ _ _ q (n1.trans (n2.trans (n3.trans (n4.trans n))))⟩
/-! ### slices -/
theorem gp_none : PO X none (RdP X W fun _ m Q _ => Q none m) := PO.imp po_none fun σ H Q ⟨ρ, m, F, Q0, E0, A, q, g, gx⟩ => g _ _ _ _ q (.same A.rel)
theorem gp_some (h : PE X e (RdE X W wa)) : PO X (some e) (RdP X W fun ρ m Q E => wa ρ m (fun d m1 => match d with | .int i => Q (some i) m1 | _ => False) E) :=
  PO.imp (po_some h) fun σ H Q ⟨ρ, m, F, Q0, E0, A, q, g, gx⟩ => rd1 A q gx fun x m1 F1 v H1 q1 n1 r1 => by
    cases x with
    | int i =>
      cases r1
      exact ⟨i, rfl, g _ _ _ _ q1 n1⟩
    | _ => exact q1.elim
theorem ge_sl {wl wh : WP0} {lo hi : Option Expr} {p2 : Pos} (he : PE X e (RdE X W wa)) (hl : PO X lo (RdP X W wl)) (hh : PO X hi (RdP X W wh)) :
    PE X (.Subscript e (.Slice lo hi none p2) pos) (RdE X W fun ρ m Q E => wa ρ m (fun x m1 => wl ρ m1 (fun l m2 => wh ρ m2 (fun h m3 => getw (slD m3 l h x) fun z => Q z m3) E) E) E) :=
  PE.imp (pe_slice sl_D he hl hh) fun σ H Q ⟨ρ, m, F, Q0, E0, A, q, g, gx⟩ => rd1 A q gx fun x m1 F1 v H1 q1 n1 r1 =>
    ⟨ρ, m1, F1, _, E0, A.nx n1, q1, fun l m2 F2 H2 q2 n2 => ⟨ρ, m2, F2, _, E0, (A.nx n1).nx n2, q2, fun h m3 F3 H3 q3 n3 =>
      ⟨m3, F3, x, Q0, n3.rel, Rep.ext (n2.trans n3).ext _ _ r1, q3, g.nx (n1.trans (n2.trans n3))⟩, (gx.nx n1).nx n2⟩, gx.nx n1⟩
/-! ### built-ins -/
theorem ge_cb {n : Nat} {t : TE} {f : MH → List D → Option D} (h : PE X e t) (ht : ∀ σ H Q, RdA X W n ws σ H (fun vs H1 => VN X f vs H1 Q) → t σ H Q) :
    PE X e (RdE X W fun ρ m Q E => ws ρ m (fun ds m1 => getw (f m1 ds) fun z => Q z m1) E) :=
  ge_args (f := fun ds m1 Q _ => getw (f m1 ds) fun z => Q z m1) h fun σ H Q r => ht σ H Q (ra_imp r fun vs H1 ⟨ds, m, F, Q0, E0, _, r, R, q, g, _⟩ => ⟨m, F, ds, Q0, R, r, q, g⟩)
end
end PT
end
section
set_option linter.all false
set_option maxRecDepth 100000
set_option maxHeartbeats 4000000
/-! PtH: iterators, targets, statements, calls by readings. -/
namespace PT
open PySem PySem.Spec PyProof.Rows L2

abbrev WI0 := Env0 → MH → (List D → Option (Nat × List D) → MH → Prop) → QX → Prop
def RdI (X : Cx) (W : WX) (w : WI0) : TI := fun σ H R => ∃ ρ m F I0 E0, At X ρ m F σ H ∧ w ρ m I0 E0 ∧
  (∀ xs gd m1 F1 H1 J, I0 xs gd m1 → Nx X.K X.mg m F H m1 F1 H1 → WalkD X.K X.mg J xs gd m1 F1 H1 → R J H1) ∧ GoX X W σ m F H E0
section
variable {X : Cx} {W : WX} {tg e : Expr} {wa : WE0} {ws : WA0}
section
variable {pins : List (Addr × Obj)} {σ : L2.St} {H : Hp} {s : Shared} {R : It → Hp → Prop} {E : Value → Shared → Prop} {a : Addr} {xs : List V}
theorem it_of_list (I : Inv X pins σ H s) (hq : SqL X.K H a xs) (q : R (Itl X.K a) H) : wpAny (model X.prog X.w) X.A (pyIter (.ref a)) (PIE X pins σ tg R) E s := by
  obtain ⟨us, _, pl, _⟩ := I.list hq
  have fr : H s.heap.objs.size = none := I.hok.fresh (Nat.le_refl _)
  refine wpAny_pyIter_list pl.isList ⟨_, [s.heap.objs.size], _, Itl X.K a, H, rfl, ?_, turn_list a _, ?_, ?_, q⟩
  · exact I.kept (t' := s.toks) fun _ _ z => Heap.get?_push_of_some _ z
  · exact ⟨_, Heap.get?_push_size _ rfl, rfl, rfl⟩
  · intro b hb
    obtain rfl := List.mem_singleton.mp hb
    exact I.fpOk (Nat.le_refl _) fr
theorem it_of_tup (I : Inv X pins σ H s) (hq : SqT X.K H a xs) (q : R (Itt X.K a) H) : wpAny (model X.prog X.w) X.A (pyIter (.ref a)) (PIE X pins σ tg R) E s := by
  obtain ⟨us, _, pl, _⟩ := I.tuple hq
  have fr : H s.heap.objs.size = none := I.hok.fresh (Nat.le_refl _)
  refine wpAny_pyIter_tuple (show s.heap.IsTuple a us.toArray from pl) ⟨_, [s.heap.objs.size], _, Itt X.K a, H, rfl, ?_, turn_tuple a _, ?_, ?_, q⟩
  · exact I.kept (t' := s.toks) fun _ _ z => Heap.get?_push_of_some _ z
  · exact ⟨_, Heap.get?_push_size _ rfl, rfl, rfl⟩
  · intro b hb
    obtain rfl := List.mem_singleton.mp hb
    exact I.fpOk (Nat.le_refl _) fr
theorem it_of_str {z : Str} {u : Value} (I : Inv X pins σ H s) (r : RelV (.str z) u) (q : R (Its z) H) : wpAny (model X.prog X.w) X.A (pyIter u) (PIE X pins σ tg R) E s := by
  obtain ⟨t, rfl⟩ := r
  by_cases h : z.cps.all (· < 128) = true
  · refine wpAny_pyIter_ascii h ?_
    exact pi_one I _ (turn_str _ z t _ (.inl rfl)) ⟨_, Heap.get?_push_size _ rfl, rfl, rfl⟩ q
  · refine wpAny_pyIter_wide (Bool.eq_false_iff.mpr h) ?_
    exact pi_one I _ (turn_str _ z t _ (.inr rfl)) ⟨_, Heap.get?_push_size _ rfl, rfl, rfl⟩ q
theorem en_fp {h' : Heap} (I : Inv X pins σ H s) : ∀ b ∈ [s.heap.objs.size + 1, s.heap.objs.size], FpOk X pins H b := by
  intro b hb
  have hle : s.heap.objs.size ≤ b := by
    rcases List.mem_cons.mp hb with rfl | hb
    · omega
    · rw [List.mem_singleton.mp hb]; exact Nat.le_refl _
  exact I.fpOk hle (I.hok.fresh hle)
theorem en_of_list {elts : List Expr} {kk : Nat} {tpos : Pos} (I : Inv X pins σ H s) (hq : SqL X.K H a xs) (q : R (Ite X.K a) H) :
    wpAny (model X.prog X.w) X.A (call (.type "enumerate") [.ref a]) (fun v s1 => wpAny (model X.prog X.w) X.A (pyIter v) (PIE X pins σ (.Tuple elts kk tpos) R) E s1) E s := by
  obtain ⟨us, _, pl, _⟩ := I.list hq
  refine call_enumerate_list pl.isList fun h' e1 e2 _ kp => wpAny_pyIter_enum e1 ⟨s.heap.objs.size + 1, _, _, Ite X.K a, H, rfl, ?_, turn_enum a _ s.heap.objs.size, ?_, en_fp (h' := h') I, q⟩
  · exact I.kept (t' := s.toks) kp
  · exact ⟨⟨.none, e1⟩, e2, Nat.succ_ne_self _⟩
theorem en_of_tup {elts : List Expr} {kk : Nat} {tpos : Pos} (I : Inv X pins σ H s) (hq : SqT X.K H a xs) (q : R (ItN X.K a) H) :
    wpAny (model X.prog X.w) X.A (call (.type "enumerate") [.ref a]) (fun v s1 => wpAny (model X.prog X.w) X.A (pyIter v) (PIE X pins σ (.Tuple elts kk tpos) R) E s1) E s := by
  obtain ⟨us, _, pl, _⟩ := I.tuple hq
  have hlt : a < s.heap.objs.size := by obtain ⟨o, e, _⟩ := pl; exact Heap.lt_size e
  refine en_begin (begins_tuple a us.toArray) pl fun h' e1 e2 kp => wpAny_pyIter_enum e1 ⟨s.heap.objs.size + 1, _, _, ItN X.K a, H, rfl, ?_, turnN a _ s.heap.objs.size, ?_, en_fp (h' := h') I, q⟩
  · exact I.kept (t' := s.toks) kp
  · exact ⟨⟨.none, e1⟩, ⟨_, e2, rfl, rfl⟩, Nat.succ_ne_self _, Nat.ne_of_lt hlt, Nat.ne_of_lt (Nat.lt_succ_of_lt hlt)⟩
end
/-- what a for walks -/
theorem gi_val (ha : PE X e (RdE X W wa)) : PI X tg e (RdI X W fun ρ m I E => wa ρ m (fun d m1 => getw (itD m1 .val [d]) fun ig => I ig.1 ig.2 m1) E) := by
  refine ⟨fun pins s σ H R I ⟨ρ, m, F, I0, E0, A, h, g, gx⟩ => ?_⟩
  refine thn (ha.run pins s σ H (fun v H1 => ∃ d m1 F1, Nx X.K X.mg m F H m1 F1 H1 ∧ Rep X.K X.mg F1 H1 d v ∧ getw (itD m1 .val [d]) fun ig => I0 ig.1 ig.2 m1) I (rd1 A h gx fun d m1 F1 v H1 q1 n1 r1 => ⟨d, m1, F1, n1, r1, q1⟩)) fun u s1 ⟨x, H1, I1, ru, d, m1, F1, n1, r1, q1⟩ => ?_
  obtain ⟨ig, e1, q2⟩ := getw_iff.mp q1
  have R1 := n1.rel
  cases d with
  | tup ds =>
    cases e1
    obtain ⟨a, vs, rfl, t, rr, hl⟩ := r1
    cases ru
    exact it_of_tup I1 t.sq (g _ _ _ _ _ _ q2 n1 (wd_tup t rr hl))
  | lst ds =>
    cases e1
    obtain ⟨a, vs, rfl, f, t, rr, hl⟩ := r1
    cases ru
    exact it_of_list I1 (.inl (.inl t)) (g _ _ _ _ _ _ q2 n1 (wd_lst f t rr hl))
  | scr ds =>
    cases e1
    obtain ⟨a, vs, rfl, t, rr, hl⟩ := r1
    cases ru
    exact it_of_list I1 t.sq (g _ _ _ _ _ _ q2 n1 (wd_scr t rr hl))
  | str z =>
    cases e1
    obtain ⟨rfl, gz⟩ := r1
    exact it_of_str I1 ru (g _ _ _ _ _ _ q2 n1 (wd_str R1 gz))
  | ref a =>
    cases r1
    cases ru
    cases q : m1 a with
    | none => simp [itD, q] at e1
    | some o =>
      cases o with
      | lst ds =>
        simp [itD, q] at e1; subst e1
        obtain ⟨vs, t, _⟩ := (R1 _ _ q).2
        exact it_of_list I1 (.inl (.inl t)) (g _ _ _ _ _ _ q2 n1 (wd_mut R1 q))
      | _ => simp [itD, q] at e1
  | _ => cases e1
theorem gi_range1 {a : Expr} {p pos : Pos} (hg : Gl X "range") (hm : X.mg "range" = none) (ha : PA X [a] (RdA X W 1 ws)) (hs : starEach [a] X.env = [(false, eval a X.env)]) :
    PI X tg (.Call (.Name "range" p) [a] [] pos) (RdI X W fun ρ m I E => ws ρ m (fun ds m1 => getw (itD m1 .range ds) fun ig => I ig.1 ig.2 m1) E) :=
  PI.imp (pi_range1 hg hm ha hs) fun σ H R ⟨ρ, m, F, I0, E0, A, h, g, gx⟩ => by
    refine ⟨ρ, m, F, _, E0, A, h, fun ds m1 F1 vs H1 l1 q1 n1 r1 => ?_, gx⟩
    obtain ⟨ig, e1, q2⟩ := getw_iff.mp q1
    obtain ⟨d, rfl⟩ := List.length_eq_one_iff.mp l1
    obtain ⟨v, rfl, rv⟩ := r1.one'
    cases d with
    | int n =>
      cases rv
      simp only [itD] at e1
      split at e1
      · rename_i hb
        cases e1
        have sl : sizeLine = 16777216 := sizeLine_eq
        exact ⟨n, rfl, hb.2, by omega, g _ _ _ _ _ _ q2 n1 (wd_range n1.rel (by omega))⟩
      · cases e1
    | _ => cases e1
theorem gi_range2 {a b : Expr} {p pos : Pos} (hg : Gl X "range") (hm : X.mg "range" = none) (ha : PA X [a, b] (RdA X W 2 ws)) (hs : starEach [a, b] X.env = [(false, eval a X.env), (false, eval b X.env)]) (hs2 : starEach [b] X.env = [(false, eval b X.env)]) :
    PI X tg (.Call (.Name "range" p) [a, b] [] pos) (RdI X W fun ρ m I E => ws ρ m (fun ds m1 => getw (itD m1 .range ds) fun ig => I ig.1 ig.2 m1) E) :=
  PI.imp (pi_range2 hg hm ha hs hs2) fun σ H R ⟨ρ, m, F, I0, E0, A, h, g, gx⟩ => by
    refine ⟨ρ, m, F, _, E0, A, h, fun ds m1 F1 vs H1 l1 q1 n1 r1 => ?_, gx⟩
    obtain ⟨ig, e1, q2⟩ := getw_iff.mp q1
    obtain ⟨d, d', rfl⟩ : ∃ d d', ds = [d, d'] := by
      match ds, l1 with
      | [d, d'], _ => exact ⟨d, d', rfl⟩
    obtain ⟨v, v', rfl, rv, rv'⟩ := r1.two'
    cases d with
    | int i =>
      cases d' with
      | int n =>
        cases rv
        cases rv'
        simp only [itD] at e1
        split at e1
        · rename_i hb
          cases e1
          have sl : sizeLine = 16777216 := sizeLine_eq
          exact ⟨i, n, rfl, by omega, g _ _ _ _ _ _ q2 n1 (wd_range n1.rel (by omega))⟩
        · cases e1
      | _ => cases e1
    | _ => cases e1
theorem gi_enum {elts : List Expr} {kk : Nat} {tpos : Pos} {a : Expr} {p pos : Pos} (hg : Gl X "enumerate") (hm : X.mg "enumerate" = none) (ha : PA X [a] (RdA X W 1 ws)) (hs : starEach [a] X.env = [(false, eval a X.env)]) :
    PI X (.Tuple elts kk tpos) (.Call (.Name "enumerate" p) [a] [] pos) (RdI X W fun ρ m I E => ws ρ m (fun ds m1 => getw (itD m1 .enum ds) fun ig => I ig.1 ig.2 m1) E) := by
  refine ⟨fun pins s σ H R I ⟨ρ, m, F, I0, E0, A, h, g, gx⟩ => ?_⟩
  refine Call_ (ld_blt I hg hm boot_enumerate (PyProof.Rows.callWith_type1 (thn (ha.run pos pins s σ H (fun vs H1 => ∃ ds m1 F1, ds.length = 1 ∧ Nx X.K X.mg m F H m1 F1 H1 ∧ Reps X.K X.mg F1 H1 ds vs ∧ getw (itD m1 .enum ds) fun ig => I0 ig.1 ig.2 m1) I
    ⟨ρ, m, F, _, E0, A, h, fun ds m1 F1 vs H1 l1 q1 n1 r1 => ⟨ds, m1, F1, l1, n1, r1, q1⟩, gx⟩) fun us s1 ⟨vs, H1, I1, ru, ds, m1, F1, l1, n1, r1, q1⟩ => ?_) hs rfl))
  obtain ⟨ig, e1, q2⟩ := getw_iff.mp q1
  obtain ⟨d, rfl⟩ := List.length_eq_one_iff.mp l1
  obtain ⟨v, rfl, rv⟩ := r1.one'
  obtain ⟨u, rfl, rl⟩ : ∃ u, us = [u] ∧ RelV v u := by
    cases ru with
    | cons a b => cases b; exact ⟨_, rfl, a⟩
  have R1 := n1.rel
  cases d with
  | tup ds =>
    cases e1
    obtain ⟨a, vs, rfl, t, rr, hl⟩ := rv
    obtain rfl : u = Value.ref a := rl
    exact en_of_tup I1 t.sq (g _ _ _ _ _ _ q2 n1 (wd_enT t rr hl))
  | lst ds =>
    cases e1
    obtain ⟨a, vs, rfl, f, t, rr, hl⟩ := rv
    obtain rfl : u = Value.ref a := rl
    exact en_of_list I1 (.inl (.inl t)) (g _ _ _ _ _ _ q2 n1 (wd_enL f t rr hl))
  | ref a =>
    cases rv
    obtain rfl : u = Value.ref a := rl
    cases q : m1 a with
    | none => simp [itD, q] at e1
    | some o =>
      cases o with
      | lst ds =>
        simp [itD, q] at e1; subst e1
        obtain ⟨vs, t, _⟩ := (R1 _ _ q).2
        exact en_of_list I1 (.inl (.inl t)) (g _ _ _ _ _ _ q2 n1 (wd_enM R1 q))
      | _ => simp [itD, q] at e1
  | _ => cases e1
/-! ### targets -/
mutual
def tgIn (vs : List Nat) : Tg → Bool
  | .nm i => vs.contains i
  | .tp ts => tgsIn vs ts
def tgsIn (vs : List Nat) : List Tg → Bool
  | [] => true
  | t :: ts => tgIn vs t && tgsIn vs ts
end
theorem wipe_get (σ : L2.St) : ∀ (vs : List Nat) (i : Nat), (L2.wipe σ vs)[i]? = if i ∈ vs then (if i < σ.length then some none else none) else σ[i]?
  | [], i => by simp [L2.wipe]
  | v :: vs, i => by
    have ih := wipe_get σ vs i
    have hl : (L2.wipe σ vs).length = σ.length := wipe_length σ vs
    show ((L2.wipe σ vs).set v none)[i]? = _
    by_cases hv : v = i
    · subst hv
      rw [List.getElem?_set]
      simp [hl]
    · rw [List.getElem?_set_ne hv, ih]
      have e : (i ∈ v :: vs) = (i ∈ vs) := by simp [Ne.symm hv]
      simp only [e]
theorem wipe_set (σ : L2.St) (vs : List Nat) (i : Nat) (v : Option V) (h : i ∈ vs) : L2.wipe (σ.set i v) vs = L2.wipe σ vs := by
  apply List.ext_getElem?
  intro j
  rw [wipe_get, wipe_get, List.length_set]
  split
  · rfl
  · rename_i hj
    rw [List.getElem?_set_ne]
    intro e; subst e; exact hj h
theorem wipe_wipe (σ : L2.St) (vs : List Nat) : L2.wipe (L2.wipe σ vs) vs = L2.wipe σ vs := by
  apply List.ext_getElem?
  intro j
  rw [wipe_get (L2.wipe σ vs), wipe_get σ, wipe_length]
  split <;> rfl
/-- a target's reading -/
def RdG (X : Cx) (t : Tg) : TG := fun v σ H Q => ∃ d ρ m F K, Rep X.K X.mg F H d v ∧ At X ρ m F σ H ∧ getw (tgD t d ρ) K ∧ ∀ ρ' σ', K ρ' → At X ρ' m F σ' H → (∀ vs, tgIn vs t = true → L2.wipe σ' vs = L2.wipe σ vs) → Q σ' H
def RdGs (X : Cx) (ts : List Tg) : TGs := fun us σ H Q => ∃ ds ρ m F K, Reps X.K X.mg F H ds us ∧ At X ρ m F σ H ∧ getw (tgDs ts ds ρ) K ∧ ∀ ρ' σ', K ρ' → At X ρ' m F σ' H → (∀ vs, tgsIn vs ts = true → L2.wipe σ' vs = L2.wipe σ vs) → Q σ' H
theorem PG.imp {tg : Expr} {t t' : TG} (h : PG X tg t) (hi : ∀ v σ H Q, t' v σ H Q → t v σ H Q) : PG X tg t' := ⟨fun pins s σ H v u Q I r q => h.run pins s σ H v u Q I r (hi _ _ _ _ q)⟩
theorem PGs.imp {tg : List Expr} {t t' : TGs} (h : PGs X tg t) (hi : ∀ v σ H Q, t' v σ H Q → t v σ H Q) : PGs X tg t' := ⟨fun pins s σ H v u Q I r q => h.run pins s σ H v u Q I r (hi _ _ _ _ q)⟩
theorem gg_name {i : Nat} {x : Str} {pos : Pos} (hN : X.N.Nodup) (hi : X.N[i]? = some x) (hx : Loc X.env.scope x) (hf : X.fn x = true ∨ X.env.scope.names.lookup x = some .local) : PG X (.Name x pos) (RdG X (.nm i)) :=
  PG.imp (pg_name hN hi hx hf) fun v σ H Q ⟨d, ρ, m, F, K, r, A, k, q⟩ => q _ _ k ⟨A.env.put i r, A.rel⟩ fun vs hv => wipe_set σ vs i _ (by simpa [tgIn] using hv)
theorem ggs_nil : PGs X [] (RdGs X []) := PGs.imp pgs_nil fun us σ H Q ⟨ds, ρ, m, F, K, r, A, k, q⟩ => by
  cases ds with
  | nil => cases r; exact ⟨rfl, q ρ σ k A fun _ _ => rfl⟩
  | cons _ _ => exact k.elim
theorem ggs_cons {es : List Expr} {t : Tg} {ts : List Tg} (h1 : PG X e (RdG X t)) (h2 : PGs X es (RdGs X ts)) (hs : (assignEach (e :: es) X.env).map (·.2) = assign e X.env :: (assignEach es X.env).map (·.2)) : PGs X (e :: es) (RdGs X (t :: ts)) :=
  PGs.imp (pgs_cons h1 h2 hs) fun us σ H Q ⟨ds, ρ, m, F, K, r, A, k, q⟩ => by
    cases ds with
    | nil => exact k.elim
    | cons d ds =>
      obtain ⟨v, vr, rfl, r1, r2⟩ := r
      obtain ⟨ρ2, e2, k2⟩ := getw_iff.mp k
      obtain ⟨ρ1, e1, e2⟩ := Option.bind_eq_some_iff.mp e2
      refine ⟨v, vr, rfl, d, ρ, m, F, fun ρ' => ρ' = ρ1, r1, A, by rw [e1]; exact rfl, fun ρ' σ' e' A' w' => ?_⟩
      subst e'
      refine ⟨ds, ρ', m, F, fun ρ' => ρ' = ρ2, r2, A', by rw [e2]; exact rfl, fun ρ3 σ3 e3 A3 w3 => ?_⟩
      subst e3
      refine q _ _ k2 A3 fun vs hv => ?_
      have hv : (tgIn vs t && tgsIn vs ts) = true := hv
      rw [Bool.and_eq_true] at hv
      rw [w3 vs hv.2, w' vs hv.1]
theorem tgDs_len : ∀ {ts : List Tg} {ds : List D} {ρ ρ' : Env0}, tgDs ts ds ρ = some ρ' → ts.length = ds.length := by
  intro ts
  induction ts with
  | nil => intro ds ρ ρ' h; cases ds with | nil => rfl | cons _ _ => cases h
  | cons t ts ih =>
    intro ds ρ ρ' h
    cases ds with
    | nil => cases h
    | cons d ds =>
      obtain ⟨ρ1, _, e2⟩ := Option.bind_eq_some_iff.mp h
      exact congrArg Nat.succ (ih e2)
/-- (a, b, ..) from a tuple or a list -/
theorem gg_tup {es : List Expr} {kk : Nat} {pos : Pos} {ts : List Tg} (hc : X.calm = true) (h : PGs X es (RdGs X ts)) (hl : (assignEach es X.env).length = ts.length) (hst : (assignEach es X.env).findIdx? (·.1) = none) :
    PG X (.Tuple es kk pos) (RdG X (.tp ts)) := by
  refine ⟨fun pins s σ H v u Q I ru ⟨d, ρ, m, F, K, r, A, k, q⟩ => ?_⟩
  obtain ⟨ρ', e, k'⟩ := getw_iff.mp k
  cases d with
  | tup xs =>
    have e' : tgDs ts xs ρ = some ρ' := e
    obtain ⟨a, vs, rfl, t, rr, _⟩ := r
    exact (pg_tup hc h hl hst).run pins s σ H _ u Q I ru ⟨a, vs, rfl, t.sq, by rw [← rr.len, tgDs_len e'], xs, ρ, m, F, K, rr, A, by rw [e']; exact k', fun ρ1 σ1 a b c => q ρ1 σ1 a b c⟩
  | lst xs =>
    have e' : tgDs ts xs ρ = some ρ' := e
    obtain ⟨a, vs, rfl, _, t, rr, _⟩ := r
    exact (pg_lst hc h hl hst).run pins s σ H _ u Q I ru ⟨a, vs, rfl, .inl (.inl t), by rw [← rr.len, tgDs_len e'], xs, ρ, m, F, K, rr, A, by rw [e']; exact k', fun ρ1 σ1 a b c => q ρ1 σ1 a b c⟩
  | _ => cases e
end
end PT
end
section
set_option linter.all false
set_option maxRecDepth 100000
set_option maxHeartbeats 4000000
/-! PtI: statements, comprehensions, calls by readings. -/
namespace PT
open PySem PySem.Spec PyProof.Rows L2

section
variable (X : Cx) (W : WX)
structure GoEn (m : MH) (F : Addr → Prop) (H : Hp) (K : En) (D : Ends) : Prop where
  nx : ∀ ρ' m' F' σ' H', K.nx ρ' m' → At X ρ' m' F' σ' H' → Nx X.K X.mg m F H m' F' H' → D.nx σ' H'
  rt : GoQ X.K X.mg m F H K.rt D.rt
  bk : ∀ ρ' m' F' σ' H', K.bk ρ' m' → At X ρ' m' F' σ' H' → Nx X.K X.mg m F H m' F' H' → D.bk σ' H'
  ct : ∀ ρ' m' F' σ' H', K.ct ρ' m' → At X ρ' m' F' σ' H' → Nx X.K X.mg m F H m' F' H' → D.ct σ' H'
  xc : ∀ ρ' m' F' σ' H' x cls dd, K.xc ρ' x m' → At X ρ' m' F' σ' H' → Nx X.K X.mg m F H m' F' H' → RepX X.K X.mg F' H' x cls dd → W cls dd σ' H'
abbrev WS0 := Env0 → MH → En → Prop
def RdS (w : WS0) : TS := fun D σ H => ∃ ρ m F K, At X ρ m F σ H ∧ w ρ m K ∧ GoEn X W m F H K D
end
section
variable {X : Cx} {W : WX} {m m1 : MH} {F F1 : Addr → Prop} {H H1 : Hp} {σ : L2.St} {ρ : Env0} {K : En} {D : Ends}
theorem GoEn.nx' (g : GoEn X W m F H K D) (n : Nx X.K X.mg m F H m1 F1 H1) : GoEn X W m1 F1 H1 K D :=
  ⟨fun a b c d e p q r => g.nx a b c d e p q (n.trans r), g.rt.nx n, fun a b c d e p q r => g.bk a b c d e p q (n.trans r), fun a b c d e p q r => g.ct a b c d e p q (n.trans r), fun a b c d e x y z p q r => g.xc a b c d e x y z p q (n.trans r)⟩
theorem GoEn.gx (g : GoEn X W m F H K D) (A : At X ρ m F σ H) : GoX X W σ m F H (K.xc ρ) := fun x m' F' cls dd H' e n r => g.xc ρ m' F' σ H' x cls dd e (A.nx n) n r
end
section
variable {X : Cx} {W : WX} {st : Stmt} {sts rest : List Stmt} {e tg : Expr} {es : List Expr} {wa wb wc : WE0} {ws : WA0} {w w2 : WS0} {pos : Pos}
theorem gss_nil : PSs X [] (RdS X W fun ρ m K => K.nx ρ m) := PSs.imp pss_nil fun D σ H ⟨ρ, m, F, K, A, h, g⟩ => g.nx _ _ _ _ _ h A (.same A.rel)
theorem gss_cons (h1 : PS X st (RdS X W w)) (h2 : PSs X rest (RdS X W w2)) : PSs X (st :: rest) (RdS X W fun ρ m K => w ρ m { nx := fun ρ' m' => w2 ρ' m' K, rt := K.rt, bk := K.bk, ct := K.ct, xc := K.xc }) :=
  PSs.imp (pss_cons h1 h2) fun D σ H ⟨ρ, m, F, K, A, h, g⟩ => ⟨ρ, m, F, _, A, h, ⟨fun ρ' m' F' σ' H' q A' n => ⟨ρ', m', F', K, A', q, g.nx' n⟩, g.rt, g.bk, g.ct, g.xc⟩⟩
theorem gs_pass : PS X (.Pass pos) (RdS X W fun ρ m K => K.nx ρ m) := PS.imp ps_pass fun D σ H ⟨ρ, m, F, K, A, h, g⟩ => g.nx _ _ _ _ _ h A (.same A.rel)
theorem gs_brk : PS X (.Break pos) (RdS X W fun ρ m K => K.bk ρ m) := PS.imp ps_break fun D σ H ⟨ρ, m, F, K, A, h, g⟩ => g.bk _ _ _ _ _ h A (.same A.rel)
theorem gs_cont : PS X (.Continue pos) (RdS X W fun ρ m K => K.ct ρ m) := PS.imp ps_continue fun D σ H ⟨ρ, m, F, K, A, h, g⟩ => g.ct _ _ _ _ _ h A (.same A.rel)
theorem gs_never : PS X st (RdS X W fun _ _ _ => False) := PS.imp ps_never fun D σ H ⟨ρ, m, F, K, A, h, g⟩ => h
theorem gs_expr (he : PE X e (RdE X W wa)) (hs : swapsWith e none pos.line X.env = pure false) : PS X (.Expr e pos) (RdS X W fun ρ m K => wa ρ m (fun _ m1 => K.nx ρ m1) (K.xc ρ)) :=
  PS.imp (ps_expr he hs) fun D σ H ⟨ρ, m, F, K, A, h, g⟩ => rd1 A h (g.gx A) fun d m1 F1 v H1 q n r => g.nx _ _ _ _ _ q (A.nx n) n
theorem gs_ret (he : PE X e (RdE X W wa)) : PS X (.Return (some e) pos) (RdS X W fun ρ m K => wa ρ m K.rt (K.xc ρ)) :=
  PS.imp (ps_ret he) fun D σ H ⟨ρ, m, F, K, A, h, g⟩ => ⟨ρ, m, F, K.rt, _, A, h, g.rt, g.gx A⟩
theorem gs_retN : PS X (.Return none pos) (RdS X W fun ρ m K => K.rt .non m) :=
  PS.imp ps_retN fun D σ H ⟨ρ, m, F, K, A, h, g⟩ => g.rt.go h A.rel rfl
theorem gs_if {c : Expr} {a b : List Stmt} {t : WT0} (hc : L2.PT X c (RdT X W t)) (ha : PSs X a (RdS X W w)) (hb : PSs X b (RdS X W w2)) :
    PS X (.If c a b pos) (RdS X W fun ρ m K => t ρ m (fun k m1 => if k = true then w ρ m1 K else w2 ρ m1 K) (K.xc ρ)) :=
  PS.imp (ps_if hc ha hb) fun D σ H ⟨ρ, m, F, K, A, h, g⟩ => ⟨ρ, m, F, _, _, A, h, fun k m1 F1 H1 q n => by
    cases k with
    | true => exact ⟨ρ, m1, F1, K, A.nx n, q, g.nx' n⟩
    | false => exact ⟨ρ, m1, F1, K, A.nx n, q, g.nx' n⟩, g.gx A⟩
/-- name = e -/
theorem gs_set {i : Nat} {x : Str} {pos' : Pos} (hN : X.N.Nodup) (hi : X.N[i]? = some x) (hx : Loc X.env.scope x) (he : PE X e (RdE X W wa)) (hs : swapsWith e (some (.Name x pos')) pos.line X.env = pure false) (hf : X.fn x = true ∨ X.env.scope.names.lookup x = some .local) :
    PS X (.Assign [.Name x pos'] e pos) (RdS X W fun ρ m K => wa ρ m (fun d m1 => getw (tgD (.nm i) d ρ) fun ρ' => K.nx ρ' m1) (K.xc ρ)) :=
  PS.imp (ps_set hN hi hx he hs hf) fun D σ H ⟨ρ, m, F, K, A, h, g⟩ => rd1 A h (g.gx A) fun d m1 F1 v H1 q n r => g.nx _ _ _ _ _ q ⟨(A.nx n).env.put i r, n.rel⟩ n
/-- a target = e -/
theorem gs_asg {t : Tg} (he : PE X e (RdE X W wa)) (hg : PG X tg (RdG X t)) (hs : swapsWithSole [tg] e pos.line X.env = pure false) (hw : swappedStores [tg] e X.env = pure none)
    (h1 : (assignEach [tg] X.env).map (·.2) = [assign tg X.env]) : PS X (.Assign [tg] e pos) (RdS X W fun ρ m K => wa ρ m (fun d m1 => getw (tgD t d ρ) fun ρ' => K.nx ρ' m1) (K.xc ρ)) :=
  PS.imp (ps_asg he hg hs hw h1) fun D σ H ⟨ρ, m, F, K, A, h, g⟩ => rd1 A h (g.gx A) fun d m1 F1 v H1 q n r => ⟨d, ρ, m1, F1, _, r, A.nx n, q, fun ρ' σ' q' A' _ => g.nx _ _ _ _ _ q' A' n⟩
/-- o[i] = e -/
theorem gs_seti {o i : Expr} {wo wi : WE0} {sp : Pos} (ho : PE X o (RdE X W wo)) (hi : PE X i (RdE X W wi)) (he : PE X e (RdE X W wa)) (hs : swapsWithSole [.Subscript o i sp] e pos.line X.env = pure false) (hw : swappedStores [.Subscript o i sp] e X.env = pure none)
    (ha : ∀ v, assign (.Subscript o i sp) X.env v = (do
      let ov ← holding [v] (eval o X.env)
      let iv ← holding [v, ov] (eval i X.env)
      standAt sp
      holding [v, ov, iv] (setItem ov iv v)
      release [v, ov, iv] [])) :
    PS X (.Assign [.Subscript o i sp] e pos) (RdS X W fun ρ m K => wa ρ m (fun v m1 => wo ρ m1 (fun x m2 => wi ρ m2 (fun y m3 => getw (setD m3 x y v) fun m4 => K.nx ρ m4) (K.xc ρ)) (K.xc ρ)) (K.xc ρ)) :=
  PS.imp (ps_asg he (pg_sub ho hi set_D ha) hs hw rfl) fun D σ H ⟨ρ, m, F, K, A, h, g⟩ => rd1 A h (g.gx A) fun d m1 F1 v H1 q n r =>
    rd1 (A.nx n) q ((g.nx' n).gx (A.nx n)) fun x m2 F2 xv H2 q2 n2 r2 => rd1 ((A.nx n).nx n2) q2 ((g.nx' (n.trans n2)).gx ((A.nx n).nx n2)) fun y m3 F3 yv H3 q3 n3 r3 => by
      obtain ⟨m4, e4, q4⟩ := getw_iff.mp q3
      exact ⟨m3, F3, x, y, d, m4, n3.rel, Rep.ext n3.ext _ _ r2, r3, Rep.ext (n2.trans n3).ext _ _ r, e4, fun F' H' n4 => g.nx _ _ _ _ _ q4 (A.nx (n.trans (n2.trans (n3.trans n4)))) (n.trans (n2.trans (n3.trans n4)))⟩
/-- name op= e -/
theorem gs_aug {i : Nat} {x : Str} {op : BOp} {pos' : Pos} (hN : X.N.Nodup) (hi : X.N[i]? = some x) (hx : Loc X.env.scope x) (he : PE X e (RdE X W wa)) (hf : X.fn x = true ∨ X.env.scope.names.lookup x = some .local) :
    PS X (.AugAssign (.Name x pos') (bopOf op) e pos) (RdS X W fun ρ m K => getw (slot ρ i) fun x => wa ρ m (fun y m1 => getw (augD m1 op x y) fun z => K.nx (put ρ i (some z.1)) z.2) (K.xc ρ)) :=
  PS.imp (ps_aug hN hi hx he (aug_D op) hf) fun D σ H ⟨ρ, m, F, K, A, h, g⟩ => by
    obtain ⟨x, e1, h⟩ := getw_iff.mp h
    obtain ⟨v, e2, rx⟩ := A.env.2 i x e1
    refine ⟨v, e2, rd1 A h (g.gx A) fun y m1 F1 yv H1 q n r => ?_⟩
    obtain ⟨z, e3, q3⟩ := getw_iff.mp q
    exact ⟨m1, F1, x, y, fun d m' => d = z.1 ∧ m' = z.2, n.rel, Rep.ext n.ext _ _ rx, r, by rw [e3]; exact ⟨rfl, rfl⟩, fun d m' F' v' H' ⟨ed, em⟩ n' r' => by
      subst ed em
      exact g.nx _ _ _ _ _ q3 ⟨((A.nx n).nx n').env.put i r', n'.rel⟩ (n.trans n')⟩
/-- a, b = x, y -/
theorem gs_par2 {i j : Nat} {x y : Str} {a b : Expr} {px py pt : Pos} {kt k2 pt2} (hc : X.calm = true) (hN : X.N.Nodup) (hi : X.N[i]? = some x) (hj : X.N[j]? = some y) (hij : i ≠ j)
    (hx : X.env.scope.names.lookup x = some .local) (hy : X.env.scope.names.lookup y = some .local) (ha : PA X [a, b] (RdA X W 2 ws))
    (hw : swappedStores [.Tuple [.Name x px, .Name y py] kt pt] (.Tuple [a, b] k2 pt2) X.env = pure (some [x, y]))
    (hs : swapsWithSole [.Tuple [.Name x px, .Name y py] kt pt] (.Tuple [a, b] k2 pt2) pos.line X.env = pure false) :
    PS X (.Assign [.Tuple [.Name x px, .Name y py] kt pt] (.Tuple [a, b] k2 pt2) pos) (RdS X W fun ρ m K => ws ρ m (fun ds m1 => getw (tgDs [.nm i, .nm j] ds ρ) fun ρ' => K.nx ρ' m1) (K.xc ρ)) :=
  PS.imp (ps_par hc hN hi hj hij hx hy ha hw hs) fun D σ H ⟨ρ, m, F, K, A, h, g⟩ => ⟨ρ, m, F, _, _, A, h, fun ds m1 F1 vs H1 l1 q n r => by
    obtain ⟨d, d', rfl⟩ : ∃ d d', ds = [d, d'] := by
      match ds, l1 with
      | [d, d'], _ => exact ⟨d, d', rfl⟩
    obtain ⟨v, v', rfl, rv, rv'⟩ := r.two'
    exact ⟨v, v', rfl, g.nx _ _ _ _ _ q ⟨((A.nx n).env.put i rv).put j rv', n.rel⟩ n⟩, g.gx A⟩
theorem gs_par3 {i j l : Nat} {x y z : Str} {a b c : Expr} {px py pz pt : Pos} {kt k2 pt2} (hc : X.calm = true) (hN : X.N.Nodup) (hi : X.N[i]? = some x) (hj : X.N[j]? = some y) (hl : X.N[l]? = some z) (hij : i ≠ j) (hil : i ≠ l) (hjl : j ≠ l)
    (hx : X.env.scope.names.lookup x = some .local) (hy : X.env.scope.names.lookup y = some .local) (hz : X.env.scope.names.lookup z = some .local) (ha : PA X [a, b, c] (RdA X W 3 ws))
    (hw : swappedStores [.Tuple [.Name x px, .Name y py, .Name z pz] kt pt] (.Tuple [a, b, c] k2 pt2) X.env = pure (some [x, y, z]))
    (hs : swapsWithSole [.Tuple [.Name x px, .Name y py, .Name z pz] kt pt] (.Tuple [a, b, c] k2 pt2) pos.line X.env = pure false) :
    PS X (.Assign [.Tuple [.Name x px, .Name y py, .Name z pz] kt pt] (.Tuple [a, b, c] k2 pt2) pos) (RdS X W fun ρ m K => ws ρ m (fun ds m1 => getw (tgDs [.nm i, .nm j, .nm l] ds ρ) fun ρ' => K.nx ρ' m1) (K.xc ρ)) :=
  PS.imp (ps_par3 hc hN hi hj hl hij hil hjl hx hy hz ha hw hs) fun D σ H ⟨ρ, m, F, K, A, h, g⟩ => ⟨ρ, m, F, _, _, A, h, fun ds m1 F1 vs H1 l1 q n r => by
    obtain ⟨d, d', d'', rfl⟩ : ∃ d d' d'', ds = [d, d', d''] := by
      match ds, l1 with
      | [d, d', d''], _ => exact ⟨d, d', d'', rfl⟩
    obtain ⟨v, vr, rfl, r1, r2⟩ := r
    obtain ⟨v', v'', rfl, r3, r4⟩ := Reps.two' r2
    exact ⟨v, v', v'', rfl, g.nx _ _ _ _ _ q ⟨(((A.nx n).env.put i r1).put j r3).put l r4, n.rel⟩ n⟩, g.gx A⟩
/-- while -/
theorem gs_while {c : Expr} {body : List Stmt} {t : WT0} (hp : PassesOwn (model X.prog X.w) X.A X.env X.xe) (hc : L2.PT X c (RdT X W t)) (hb : PSs X body (RdS X W w)) :
    PS X (.While c body [] pos) (RdS X W fun ρ m K => ∃ V : Nat → Env0 → MH → Prop, (∃ n, V n ρ m) ∧ ∀ n ρ m, V n ρ m → t ρ m (fun k m1 =>
      if k = true then w ρ m1 { nx := fun ρ' m' => ∃ n', n' < n ∧ V n' ρ' m', rt := K.rt, bk := K.nx, ct := fun ρ' m' => ∃ n', n' < n ∧ V n' ρ' m', xc := K.xc } else K.nx ρ m1) (K.xc ρ)) :=
  PS.imp (ps_while hp hc hb) fun D σ H ⟨ρ, m, F, K, A, ⟨V, ⟨n0, v0⟩, turn⟩, g⟩ => by
    refine ⟨fun n σ' H' => ∃ ρ' m' F', At X ρ' m' F' σ' H' ∧ Nx X.K X.mg m F H m' F' H' ∧ V n ρ' m', ⟨n0, ρ, m, F, A, .same A.rel, v0⟩, ?_⟩
    rintro n σ1 H1 ⟨ρ1, m1, F1, A1, n1, v1⟩
    refine ⟨ρ1, m1, F1, _, _, A1, turn n ρ1 m1 v1, fun k m2 F2 H2 q n2 => ?_, (g.nx' n1).gx A1⟩
    cases k with
    | true =>
      refine ⟨fun σ' H' => ∃ n', n' < n ∧ ∃ ρ' m' F', At X ρ' m' F' σ' H' ∧ Nx X.K X.mg m F H m' F' H' ∧ V n' ρ' m', fun σ' H' ⟨n', hn, z⟩ => ⟨n', hn, z⟩, ρ1, m2, F2, _, A1.nx n2, q, ?_⟩
      have g2 := g.nx' (n1.trans n2)
      exact ⟨fun ρ' m' F' σ' H' ⟨n', hn, z⟩ A' n3 => ⟨n', hn, ρ', m', F', A', n1.trans (n2.trans n3), z⟩, g2.rt, fun a b c d e p q r => g2.nx a b c d e p q r, fun ρ' m' F' σ' H' ⟨n', hn, z⟩ A' n3 => ⟨n', hn, ρ', m', F', A', n1.trans (n2.trans n3), z⟩, g2.xc⟩
    | false => exact g.nx _ _ _ _ _ q (A1.nx n2) (n1.trans n2)
/-- for -/
theorem gs_for {iter : Expr} {body : List Stmt} {t : Tg} {wi : WI0} (hp : PassesOwn (model X.prog X.w) X.A X.env X.xe) (hc : X.calm = true) (hi : PI X tg iter (RdI X W wi)) (hg : PG X tg (RdG X t)) (hb : PSs X body (RdS X W w))
    (hs : ∀ x, foldedSetIterable iter X.env x = pure x) : PS X (.For tg iter body [] pos) (RdS X W fun ρ m K => wi ρ m (fun xs gd m1 =>
      forW gd t (fun ρ' m2 nx => w ρ' m2 { nx := nx, rt := K.rt, bk := K.nx, ct := nx, xc := K.xc }) xs ρ m1 K.nx) (K.xc ρ)) :=
  PS.imp (ps_for hp hc hi hg hb hs) fun D σ H ⟨ρ, m, F, K, A, h, g⟩ => by
    refine ⟨ρ, m, F, _, _, A, h, fun xs gd m1 F1 H1 J hI n1 wk => ?_, g.gx A⟩
    refine ⟨fun i k σ' H' => k = xs.length - i ∧ i ≤ xs.length ∧ ∃ ρ' m' F', At X ρ' m' F' σ' H' ∧ Nx X.K X.mg m1 F1 H1 m' F' H' ∧ forW gd t (fun ρ' m2 nx => w ρ' m2 { nx := nx, rt := K.rt, bk := K.nx, ct := nx, xc := K.xc }) (xs.drop i) ρ' m' K.nx,
      ⟨xs.length, by simp, Nat.zero_le _, ρ, m1, F1, A.nx n1, .same n1.rel, hI⟩, ?_⟩
    rintro i k σ2 H2 ⟨rfl, hi, ρ2, m2, F2, A2, n2, q⟩
    by_cases hlt : i < xs.length
    · rw [List.drop_eq_getElem_cons hlt] at q
      obtain ⟨go, q⟩ := q
      obtain ⟨ρ3, e3, q⟩ := getw_iff.mp q
      refine .inr ⟨wk.goes i m2 F2 H2 hlt n2 go, fun σ' H' => ∃ ρ' m' F', At X ρ' m' F' σ' H' ∧ Nx X.K X.mg m1 F1 H1 m' F' H' ∧ forW gd t (fun ρ' m2 nx => w ρ' m2 { nx := nx, rt := K.rt, bk := K.nx, ct := nx, xc := K.xc }) (xs.drop (i + 1)) ρ' m' K.nx,
        fun σ' H' z => ⟨xs.length - (i + 1), by omega, rfl, hlt, z⟩, fun x H' y => ?_⟩
      obtain ⟨d, F', ed, n3, rd⟩ := wk.yields i m2 F2 H2 x H' hlt n2 go y
      rw [List.getElem?_eq_getElem hlt] at ed
      cases ed
      refine ⟨xs[i], ρ2, m2, F', fun ρ' => ρ' = ρ3, rd, A2.nx n3, by rw [e3]; exact rfl, fun ρ' σ' e A' _ => ?_⟩
      subst e
      have g2 := g.nx' (n1.trans (n2.trans n3))
      exact ⟨ρ', m2, F', _, A', q, ⟨fun ρ4 m4 F4 σ4 H4 z A4 n4 => ⟨ρ4, m4, F4, A4, n2.trans (n3.trans n4), z⟩, g2.rt, fun a b c d e p q r => g2.nx a b c d e p q r, fun ρ4 m4 F4 σ4 H4 z A4 n4 => ⟨ρ4, m4, F4, A4, n2.trans (n3.trans n4), z⟩, g2.xc⟩⟩
    · have e : i = xs.length := by omega
      subst e
      rw [List.drop_length] at q
      exact .inl ⟨wk.stops m2 F2 H2 n2 q.1, g.nx _ _ _ _ _ q.2 A2 (n1.trans n2)⟩
end
end PT
end
section
set_option linter.all false
set_option maxRecDepth 100000
set_option maxHeartbeats 4000000
/-! PtJ: comprehensions, calls by readings. -/
namespace PT
open PySem PySem.Spec PyProof.Rows L2

section
variable {X : Cx} {W : WX}
/-- an iteration, then a thing -/
theorem rdI_of {wi : WI0} {σ : L2.St} {H : Hp} {R : It → Hp → Prop} {I0 : List D → Option (Nat × List D) → MH → Prop} {ρ : Env0} {m : MH} {F : Addr → Prop} {E0 : QX} (A : At X ρ m F σ H) (h : wi ρ m I0 E0) (gx : GoX X W σ m F H E0)
    (k : ∀ xs gd m1 F1 H1 J, I0 xs gd m1 → Nx X.K X.mg m F H m1 F1 H1 → WalkD X.K X.mg J xs gd m1 F1 H1 → R J H1) : RdI X W wi σ H R := ⟨ρ, m, F, I0, E0, A, h, k, gx⟩
end
section
variable {K : PySem.W.Frag} {mg : Str → Option Value} {m m1 : MH} {F F1 : Addr → Prop} {H H1 : Hp} {p : Addr}
/-- a new thing that nothing tells of -/
theorem Nx.hide {o : HO} (R : RelH K mg m F H) (hp : H p = none) : Nx K mg m F H m (delF F p) (upd H p o) := by
  refine ⟨ext_del hp, fun a u h1 h2 h3 => ?_, fun a u q => ?_⟩
  · have ne := ne_of_none h3 hp
    exact ⟨fun z => h1 z.2, h2, by rw [upd_ne ne]; exact h3⟩
  · obtain ⟨nf, r⟩ := R a u q
    obtain ⟨w, hw⟩ := r.some
    exact ⟨fun z => nf z.2, r.ext (ext_del hp) (upd_ne (ne_of_none hw hp))⟩
/-- .. is written -/
theorem Nx.wrHid {o : HO} (n : Nx K mg m1 F1 H1 m F H) (h0 : H1 p = none) (nf : ¬ F p) (nm : m p = none) : Nx K mg m1 F1 H1 m F (upd H p o) := by
  have e : Ext1 F H F (upd H p o) := fun b u h1 h2 _ => by
    have ne : b ≠ p := fun z => nf (z ▸ h1)
    exact ⟨h1, by rw [upd_ne ne]; exact h2⟩
  refine ⟨n.ext.trans e, fun a u h1 h2 h3 => ?_, fun a u q => ?_⟩
  · obtain ⟨g1, g2, g3⟩ := n.kept a u h1 h2 h3
    exact ⟨g1, g2, by rw [upd_ne (ne_of_none h3 h0)]; exact g3⟩
  · obtain ⟨nf', r⟩ := n.rel a u q
    have ne : a ≠ p := fun z => by rw [z, nm] at q; cases q
    exact ⟨nf', r.ext e (upd_ne ne)⟩
theorem ext_hid {o : HO} (nf : ¬ F p) : Ext1 F H F (upd H p o) := fun b u h1 h2 _ => by
  have ne : b ≠ p := fun z => nf (z ▸ h1)
  exact ⟨h1, by rw [upd_ne ne]; exact h2⟩
theorem ext_show : Ext1 F H (addF F p) H := fun b u h1 h2 _ => ⟨.inr h1, h2⟩
/-- .. is shown -/
theorem Nx.unhide (n : Nx K mg m1 F1 H1 m F H) (h0 : H1 p = none) (nm : m p = none) : Nx K mg m1 F1 H1 m (addF F p) H := by
  refine ⟨n.ext.trans ext_show, fun a u h1 h2 h3 => ?_, fun a u q => ?_⟩
  · obtain ⟨g1, g2, g3⟩ := n.kept a u h1 h2 h3
    exact ⟨fun z => z.elim (ne_of_none h3 h0) g1, g2, g3⟩
  · obtain ⟨nf', r⟩ := n.rel a u q
    have ne : a ≠ p := fun z => by rw [z, nm] at q; cases q
    exact ⟨fun z => z.elim ne nf', r.ext ext_show rfl⟩
/-- .. is shown as a thing that changes -/
theorem Nx.thaw' {xs : List D} {vs : List V} (n : Nx K mg m1 F1 H1 m F H) (h0 : H1 p = none) (nf : ¬ F p) (nm : m p = none) (e : H p = some (.lst vs)) (r : Reps K mg F H xs vs) (hl : xs.length ≤ sizeLine) : Nx K mg m1 F1 H1 (m.set p (.lst xs)) F H := by
  refine ⟨n.ext, fun a u h1 h2 h3 => ?_, fun a u q => ?_⟩
  · obtain ⟨g1, g2, g3⟩ := n.kept a u h1 h2 h3
    exact ⟨g1, by rw [MH.set_ne (ne_of_none h3 h0)]; exact g2, g3⟩
  · by_cases ha : a = p
    · subst ha
      rw [MH.set_same] at q; cases q
      exact ⟨nf, vs, e, r, hl⟩
    · rw [MH.set_ne ha] at q
      exact n.rel a u q
end
section
variable {K : PySem.W.Frag} {mg : Str → Option Value} {m m1 : MH} {F F1 : Addr → Prop} {H H1 : Hp} {p : Addr}
theorem Nx.thaw {xs : List D} {vs : List V} (n : Nx K mg m1 F1 H1 m F H) (h0 : H1 p = none) (nf : ¬ F p) (nm : m p = none) (e : H p = some (.lst vs)) (r : Reps K mg F H xs vs) (hl : xs.length ≤ sizeLine) : Nx K mg m1 F1 H1 (m.set p (.lst xs)) F H := n.thaw' h0 nf nm e r hl
end
abbrev W0 : WX := fun _ _ _ _ => False
section
variable {X : Cx} {W : WX} {wi : WI0} {t : Tg} {wt : WT0} {we : WE0} {own : List Nat}
/-- a step of a comprehension -/
def stepD (t : Tg) (wt : WT0) (we : WE0) (own : List Nat) (ρ : Env0) (d : D) (m2 : MH) (Kk : Option D → MH → Prop) : Prop :=
  getw (tgD t d (wipes ρ own)) fun ρ' => wt ρ' m2 (fun b m3 => if b = true then we ρ' m3 (fun y m4 => Kk (some y) m4) noX else Kk none m3) noX
theorem lc_read {mu : Bool} (ht : tgIn own t = true) {σ : L2.St} {H : Hp} {Q : VK} (h : RdE X W (fun ρ m Q E => wi ρ m (fun xs gd m1 => compW gd (stepD t wt we own ρ) xs [] m1 (muQ mu Q)) E) σ H Q) :
    tLc (RdI X W wi) (RdG X t) (RdT X W0 wt) (RdE X W0 we) own σ H Q := by
  obtain ⟨ρ, m, F, Q0, E0, A, h, g, gx⟩ := h
  refine ⟨ρ, m, F, _, E0, A, h, fun xs gd m1 F1 H1 J hI n1 wk Dd hD => ?_, gx⟩
  have ok : ∀ i H', (∃ acc accv m' F', Nx X.K X.mg m1 F1 H1 m' F' H' ∧ ¬ F' Dd ∧ m' Dd = none ∧ H' Dd = some (.lst accv) ∧ Reps X.K X.mg F' H' acc accv ∧ acc.length ≤ i ∧ compW gd (stepD t wt we own ρ) (xs.drop i) acc m' (muQ mu Q0)) →
      (∃ acc accv m' F', Nx X.K X.mg m1 F1 H1 m' F' H' ∧ ¬ F' Dd ∧ m' Dd = none ∧ H' Dd = some (.lst accv) ∧ Reps X.K X.mg F' H' acc accv ∧ acc.length ≤ i ∧ compW gd (stepD t wt we own ρ) (xs.drop i) acc m' (muQ mu Q0)) := fun _ _ z => z
  refine ⟨fun i k H' => k = xs.length - i ∧ i ≤ xs.length ∧ ∃ acc accv m' F', Nx X.K X.mg m1 F1 H1 m' F' H' ∧ ¬ F' Dd ∧ m' Dd = none ∧ H' Dd = some (.lst accv) ∧ Reps X.K X.mg F' H' acc accv ∧ acc.length ≤ i ∧ compW gd (stepD t wt we own ρ) (xs.drop i) acc m' (muQ mu Q0),
    ⟨xs.length, by simp, Nat.zero_le _, [], [], m1, delF F1 Dd, .hide n1.rel hD, fun z => z.1 rfl, n1.rel.free hD, upd_same, rfl, Nat.le_refl _, hI⟩, ?_⟩
  rintro i k H2 ⟨rfl, hi, acc, accv, m2, F2, n2, nf, nm, eD, rr, hl, q⟩
  by_cases hlt : i < xs.length
  · rw [List.drop_eq_getElem_cons hlt] at q
    obtain ⟨go, q⟩ := q
    obtain ⟨ρ3, e3, q⟩ := getw_iff.mp q
    refine .inr ⟨wk.goes i m2 F2 H2 hlt n2 go, fun H' => ∃ acc accv m' F', Nx X.K X.mg m1 F1 H1 m' F' H' ∧ ¬ F' Dd ∧ m' Dd = none ∧ H' Dd = some (.lst accv) ∧ Reps X.K X.mg F' H' acc accv ∧ acc.length ≤ i + 1 ∧ compW gd (stepD t wt we own ρ) (xs.drop (i + 1)) acc m' (muQ mu Q0),
      fun H' z => ⟨xs.length - (i + 1), by omega, rfl, hlt, z⟩, fun x H' y => ?_⟩
    obtain ⟨d, F3, ed, n3, rd⟩ := wk.yields i m2 F2 H2 x H' hlt n2 go y
    rw [List.getElem?_eq_getElem hlt] at ed
    cases ed
    refine ⟨xs[i], wipes ρ own, m2, F3, fun ρ' => ρ' = ρ3, rd, ⟨((A.nx (n1.trans (n2.trans n3))).env).wiped own, n3.rel⟩, by rw [e3]; exact rfl, fun ρ' σ' e A' hw => ⟨by rw [hw own ht, wipe_wipe], ?_⟩⟩
    subst e
    refine ⟨ρ', m2, F3, _, noX, A', q, fun b m4 F4 H4 q4 n4 => ?_, fun _ _ _ _ _ _ z => z.elim⟩
    have n24 := n3.trans n4
    cases b with
    | false =>
      obtain ⟨nf4, nm4, eD4⟩ := n24.kept _ _ nf nm eD
      exact ⟨acc, accv, m4, F4, n2.trans n24, nf4, nm4, eD4, Reps.ext n24.ext _ _ rr, Nat.le_succ_of_le hl, q4⟩
    | true =>
      refine ⟨ρ', m4, F4, _, noX, A'.nx n4, q4, fun z m5 F5 zv H5 q5 n5 r5 => ?_, fun _ _ _ _ _ _ z => z.elim⟩
      have n25 := n24.trans n5
      obtain ⟨nf5, nm5, eD5⟩ := n25.kept _ _ nf nm eD
      have rr5 := Reps.ext n25.ext _ _ rr
      have hls := wk.len
      refine ⟨accv, eD5, by rw [← rr.len]; omega, acc ++ [z], accv ++ [zv], m5, F5, (n2.trans n25).wrHid hD nf5 nm5, nf5, nm5, upd_same, Reps.ext (ext_hid nf5) _ _ (rr5.app (Reps.one r5)), by simp; omega, q5⟩
  · have e : i = xs.length := by omega
    subst e
    rw [List.drop_length] at q
    refine .inl ⟨wk.stops m2 F2 H2 n2 q.1, ?_⟩
    have q2 := q.2
    cases mu with
    | false => exact g _ _ (addF F2 Dd) _ _ q2 (n1.trans (n2.unhide hD nm)) ⟨Dd, accv, rfl, .inl rfl, eD, Reps.ext ext_show _ _ rr, Nat.le_trans hl wk.len⟩
    | true => exact g _ _ F2 _ _ (q2 Dd nm) (n1.trans (n2.thaw hD nf nm eD rr (Nat.le_trans hl wk.len))) rfl
end
/-! ### calls -/
def GoXK (K : PySem.W.Frag) (mg : Str → Option Value) (m : MH) (F : Addr → Prop) (H : Hp) (E0 : QX) (E : XK) : Prop := ∀ x m' F' cls dd H', E0 x m' → Nx K mg m F H m' F' H' → RepX K mg F' H' x cls dd → E cls dd H'
abbrev Prom := List D → MH → QD → QX → Prop
/-- a def's promise by trees -/
def spOf (K : PySem.W.Frag) (mg : Str → Option Value) (n : Nat) (prom : Prom) : Sp := fun vs H Q E => vs.length = n ∧ ∃ ds m F Q0 E0, Reps K mg F H ds vs ∧ RelH K mg m F H ∧ prom ds m Q0 E0 ∧ GoQ K mg m F H Q0 Q ∧ GoXK K mg m F H E0 E
/-- a def that may be called: n positional values, the keywords ks; arr puts them in the parameters' order -/
structure FnF0 (P : Program) (w : World) (K : PySem.W.Frag) (mg : Str → Option Value) (base : Heap) (j : Nat) (f : String) (n : Nat) (ks : List Str) (arr : List D → List D → List D) (prom : Prom) : Prop where
  ex : ∃ (a : Addr) (fd : FuncData) (ps : List Str) (g : List Value → List Value → List Value) (gV : List V → List V → List V), mg (Str.ofString f) = some (.ref a) ∧ PySem.W.keepIn K (.ref a) = true ∧
    FnOk P w K mg base (L2N.CX P w) j a fd ps (spOf K mg ps.length prom) ∧ KBn K fd ps n ks g gV ∧ (∀ vs zs, vs.length = n → zs.length = ks.length → (gV vs zs).length = ps.length) ∧
    ∀ F H ds vs ys zs, Reps K mg F H ds vs → Reps K mg F H ys zs → ds.length = n → ys.length = ks.length → Reps K mg F H (arr ds ys) (gV vs zs)
/-- what lies at a may be called so -/
def RunF (P : Program) (w : World) (K : PySem.W.Frag) (mg : Str → Option Value) (base : Heap) (j : Nat) (a : Addr) (n : Nat) (ks : List Str) (arr : List D → List D → List D) (prom : Prom) : Prop :=
  ∀ (X : Cx) (W : WX) (pins : List (Addr × Obj)) (σ : L2.St) (H : Hp) (s : Shared) (Q : VK) (us ws : List Value) (vs zs : List V), X.prog = P → X.w = w → X.K = K → X.mg = mg → X.base = base → Room j X.A → L2N.Takes X W → Inv X pins σ H s → Vals vs us → Vals zs ws →
    (∃ ds ys m F Q0 E0, Reps X.K X.mg F H ds vs ∧ Reps X.K X.mg F H ys zs ∧ ds.length = n ∧ ys.length = ks.length ∧ RelH X.K X.mg m F H ∧ prom (arr ds ys) m Q0 E0 ∧ GoQ X.K X.mg m F H Q0 Q ∧ GoX X W σ m F H E0) →
    wpAny (model X.prog X.w) X.A (call (.ref a) us (ks.zip ws)) (EP X pins σ Q) X.xe s
/-- a thing that may be called by its name: a def, a class -/
structure FnF (P : Program) (w : World) (K : PySem.W.Frag) (mg : Str → Option Value) (base : Heap) (j : Nat) (f : String) (n : Nat) (ks : List Str) (arr : List D → List D → List D) (prom : Prom) : Prop where
  ex : ∃ a : Addr, mg (Str.ofString f) = some (.ref a) ∧ PySem.W.keepIn K (.ref a) = true ∧ RunF P w K mg base j a n ks arr prom
section
variable {X : Cx} {W : WX} {j : Nat} {f : String} {n : Nat} {ks : List Str} {arr : List D → List D → List D} {prom : Prom}
theorem run_f {pins : List (Addr × Obj)} {σ : L2.St} {H : Hp} {s : Shared} {Q : VK} {us ws : List Value} {vs zs : List V} {a : Addr} {fd : FuncData} {ps : List Str} {g : List Value → List Value → List Value} {gV : List V → List V → List V}
    (F : FnOk X.prog X.w X.K X.mg X.base (L2N.CX X.prog X.w) j a fd ps (spOf X.K X.mg ps.length prom)) (hb : KBn X.K fd ps n ks g gV) (hl : ∀ vs zs, vs.length = n → zs.length = ks.length → (gV vs zs).length = ps.length)
    (ha : ∀ F H ds vs ys zs, Reps X.K X.mg F H ds vs → Reps X.K X.mg F H ys zs → ds.length = n → ys.length = ks.length → Reps X.K X.mg F H (arr ds ys) (gV vs zs)) (hr : Room j X.A) (tk : L2N.Takes X W)
    (I : Inv X pins σ H s) (r : Vals vs us) (rz : Vals zs ws) (h : ∃ ds ys m F Q0 E0, Reps X.K X.mg F H ds vs ∧ Reps X.K X.mg F H ys zs ∧ ds.length = n ∧ ys.length = ks.length ∧ RelH X.K X.mg m F H ∧ prom (arr ds ys) m Q0 E0 ∧ GoQ X.K X.mg m F H Q0 Q ∧ GoX X W σ m F H E0) :
    wpAny (model X.prog X.w) X.A (call (.ref a) us (ks.zip ws)) (EP X pins σ Q) X.xe s := by
  obtain ⟨ds, ys, m, F0, Q0, E0, rd, ry, l1, l2, R, p, gq, gx⟩ := h
  have lv : vs.length = n := by rw [← rd.len]; exact l1
  have lz : zs.length = ks.length := by rw [← ry.len]; exact l2
  refine wpAny_call (codeAny_mono (F.run X.A X.stack s H ⟨us, ks.zip ws⟩ (g us ws) (gV vs zs) Q (WE W σ) hr I.env0 (hb.to s us ws I.kIn (r.length.symm.trans lv) (rz.length.symm.trans lz)) (hb.rel r rz)
    ⟨hl vs zs lv lz, arr ds ys, m, F0, Q0, E0, ha F0 H ds vs ys zs rd ry l1 l2, R, p, gq, gx⟩) fun r s' hq => ?_)
  cases r with
  | error e => exact L2N.passAt tk σ pins H s e s' I hq
  | ok fl =>
    cases fl with
    | ret u => exact I.after hq
    | next => exact hq.elim
    | brk => exact hq.elim
    | cont => exact hq.elim
theorem FnF.of {P : Program} {w : World} {K : PySem.W.Frag} {mg : Str → Option Value} {base : Heap} (F0 : FnF0 P w K mg base j f n ks arr prom) : FnF P w K mg base j f n ks arr prom := by
  obtain ⟨a, fd, ps, g, gV, hm, hki, F, hb, hlen, harr⟩ := F0.ex
  refine ⟨a, hm, hki, fun X W pins σ H s Q us ws vs zs e1 e2 e3 e4 e5 hr tk I r rz h => ?_⟩
  subst e1 e2 e3 e4 e5
  exact run_f F hb hlen harr hr tk I r rz h
theorem RunF.mono {P : Program} {w : World} {K : PySem.W.Frag} {mg : Str → Option Value} {base : Heap} {a : Addr} {k : Nat} (F : RunF P w K mg base j a n ks arr prom) (h : j ≤ k) : RunF P w K mg base k a n ks arr prom :=
  fun X W pins σ H s Q us ws vs zs e1 e2 e3 e4 e5 hr tk I r rz q => F X W pins σ H s Q us ws vs zs e1 e2 e3 e4 e5 (hr.mono h) tk I r rz q
variable {es : List Expr} {e : Expr} {kws : List Keyword} {ws : WA0} {wk : WA0} {x : Str} {p pos : Pos}
/-- keywords' values -/
theorem PK.imp {t t' : TA} (h : PK X kws t) (hi : ∀ σ H Q, t' σ H Q → t σ H Q) : PK X kws t' := ⟨fun pos pins s σ H Q I q => h.run pos pins s σ H Q I (hi _ _ _ q)⟩
theorem gk_nil : PK X [] (RdA X W 0 fun _ m Q _ => Q [] m) := PK.imp pk_nil fun σ H Q ⟨ρ, m, F, Q0, E0, A, q, g, gx⟩ => g [] m F [] H rfl q (.same A.rel) rfl
theorem gk_cons {nm : Option Str} {kpos : Pos} {wa : WE0} {nk : Nat} (ha : PE X e (RdE X W wa)) (hr : PK X kws (RdA X W nk wk)) :
    PK X (⟨nm, e, kpos⟩ :: kws) (RdA X W (nk + 1) fun ρ m Q E => wa ρ m (fun d m1 => wk ρ m1 (fun ds m2 => Q (d :: ds) m2) E) E) :=
  PK.imp (pk_cons ha hr) fun σ H Q ⟨ρ, m, F, Q0, E0, A, q, g, gx⟩ => rd1 A q gx fun d m1 F1 v H1 q1 n1 r1 =>
    ⟨ρ, m1, F1, _, E0, A.nx n1, q1, fun ds m2 F2 vs H2 l2 q2 n2 r2 => g (d :: ds) m2 F2 (v :: vs) H2 (congrArg Nat.succ l2) q2 (n1.trans n2) ⟨v, vs, rfl, Rep.ext n2.ext _ _ r1, r2⟩, gx.nx n1⟩
/-- f(e, .., k = v, ..) -/
theorem ge_call (ff : FnF X.prog X.w X.K X.mg X.base j f n ks arr prom) (hr : Room j X.A) (tk : L2N.Takes X W) (hg : Gl X (Str.ofString f)) (hdb : (Str.ofString f == ("__debug__" : Str)) = false)
    (ha : PA X (e :: es) (RdA X W n ws)) (hk : PK X kws (RdA X W ks.length wk))
    (hkn : (backToKw pos (keywordEach kws X.env)).filterMap (·.1) = ks) (hall : (backToKw pos (keywordEach kws X.env)).all (·.1.isSome) = true) (hany : (backToKw pos (keywordEach kws X.env)).any (·.1.isNone) = false)
    (hs1 : starEach (e :: es) X.env = (false, eval e X.env) :: starEach es X.env) (hs2 : (backTo pos (starEach es X.env)).any (·.1) = false) :
    PE X (.Call (.Name (Str.ofString f) p) (e :: es) kws pos) (RdE X W fun ρ m Q E => ws ρ m (fun ds m1 => wk ρ m1 (fun ys m2 => prom (arr ds ys) m2 Q E) E) E) := by
  obtain ⟨a, hm, hki, run⟩ := ff.ex
  refine ⟨fun pins s σ H Q I ⟨ρ, m, F0, Q0, E0, A, h, gq, gx⟩ => ?_⟩
  refine wpAny_Call_Name_kw (ld_glob I hg hm ?_ hdb)
  have args : RdA X W n ws σ H (fun vs H1 => ∃ ds m1 F1, Reps X.K X.mg F1 H1 ds vs ∧ ds.length = n ∧ Nx X.K X.mg m F0 H m1 F1 H1 ∧ wk ρ m1 (fun ys m2 => prom (arr ds ys) m2 Q0 E0) E0) :=
    ⟨ρ, m, F0, _, E0, A, h, fun ds m1 F1 vs H1 l1 q1 n1 r1 => ⟨ds, m1, F1, r1, l1, n1, q1⟩, gx⟩
  refine PySem.W.callWith_KW (h₀ := X.base) I.ok.mod.kin hki hall (thn (ha.run pos pins s σ H _ I args) fun us s1 ⟨vs, H1, I1, r1, ds, m1, F1, rr, l1, n1, q1⟩ => ?_) (by rw [hs1]; show ((false || (backTo pos (starEach es X.env)).any (·.1)) || _) = false; rw [hs2, hany]; rfl) hs1
  have kwds : RdA X W ks.length wk σ H1 (fun zs H2 => ∃ ds ys m F Q0 E0, Reps X.K X.mg F H2 ds vs ∧ Reps X.K X.mg F H2 ys zs ∧ ds.length = n ∧ ys.length = ks.length ∧ RelH X.K X.mg m F H2 ∧ prom (arr ds ys) m Q0 E0 ∧ GoQ X.K X.mg m F H2 Q0 Q ∧ GoX X W σ m F H2 E0) :=
    ⟨ρ, m1, F1, _, E0, A.nx n1, q1, fun ys m2 F2 zs H2 l2 q2 n2 r2 => ⟨ds, ys, m2, F2, Q0, E0, Reps.ext n2.ext _ _ rr, r2, l1, l2, n2.rel, q2, gq.nx (n1.trans n2), gx.nx (n1.trans n2)⟩, gx.nx n1⟩
  refine thn (hk.run pos pins s1 σ H1 _ I1 kwds) fun zs s2 ⟨zv, H2, I2, r2, q2⟩ => ⟨I2.kIn, ?_⟩
  rw [hkn]
  exact run X W _ _ _ _ _ _ _ _ _ rfl rfl rfl rfl rfl hr tk I2 r1 r2 q2
/-- f(k = v, ..) -/
theorem ge_call0 (ff : FnF X.prog X.w X.K X.mg X.base j f 0 ks arr prom) (hr : Room j X.A) (tk : L2N.Takes X W) (hg : Gl X (Str.ofString f)) (hdb : (Str.ofString f == ("__debug__" : Str)) = false)
    (hk : PK X kws (RdA X W ks.length wk))
    (hkn : (backToKw pos (keywordEach kws X.env)).filterMap (·.1) = ks) (hall : (backToKw pos (keywordEach kws X.env)).all (·.1.isSome) = true) (hany : (backToKw pos (keywordEach kws X.env)).any (·.1.isNone) = false) :
    PE X (.Call (.Name (Str.ofString f) p) [] kws pos) (RdE X W fun ρ m Q E => wk ρ m (fun ys m2 => prom (arr [] ys) m2 Q E) E) := by
  obtain ⟨a, hm, hki, run⟩ := ff.ex
  refine ⟨fun pins s σ H Q I ⟨ρ, m, F0, Q0, E0, A, h, gq, gx⟩ => ?_⟩
  refine wpAny_Call_Name_kw (ld_glob I hg hm ?_ hdb)
  have kwds : RdA X W ks.length wk σ H (fun zs H2 => ∃ ds ys m F Q0 E0, Reps X.K X.mg F H2 ds [] ∧ Reps X.K X.mg F H2 ys zs ∧ ds.length = 0 ∧ ys.length = ks.length ∧ RelH X.K X.mg m F H2 ∧ prom (arr ds ys) m Q0 E0 ∧ GoQ X.K X.mg m F H2 Q0 Q ∧ GoX X W σ m F H2 E0) :=
    ⟨ρ, m, F0, _, E0, A, h, fun ys m2 F2 zs H2 l2 q2 n2 r2 => ⟨[], ys, m2, F2, Q0, E0, rfl, r2, rfl, l2, n2.rel, q2, gq.nx n2, gx.nx n2⟩, gx⟩
  refine PySem.W.callWith_KW0 (h₀ := X.base) I.ok.mod.kin hki hall (thn (hk.run pos pins s σ H _ I kwds) fun zs s2 ⟨zv, H2, I2, r2, q2⟩ => ⟨I2.kIn, ?_⟩) (by rw [hany]; rfl)
  rw [hkn]
  exact run X W _ _ _ _ _ _ _ _ _ rfl rfl rfl rfl rfl hr tk I2 .nil r2 q2
end
end PT
end
section
set_option linter.all false
set_option maxRecDepth 100000
set_option maxHeartbeats 4000000
/-! PtV: instances by readings: fields, isinstance of classes of one's own, freezing. -/
namespace PT
open PySem PySem.Spec PyProof.Rows L2

theorem ofS_inj {a b : String} (h : Str.ofString a = Str.ofString b) : a = b := by
  rw [Str.ofString_eq_toList, Str.ofString_eq_toList] at h
  have h1 : a.toList.map Char.toNat = b.toList.map Char.toNat := by simpa using h
  have h2 : ∀ (l l' : List Char), l.map Char.toNat = l'.map Char.toNat → l = l' := by
    intro l
    induction l with
    | nil => intro l' e; cases l' with
      | nil => rfl
      | cons _ _ => cases e
    | cons c l ih => intro l' e; cases l' with
      | nil => cases e
      | cons c' l' =>
        rw [List.map_cons, List.map_cons] at e
        injection e with e1 e2
        have : c = c' := Char.toNat_inj.mp e1
        rw [this, ih _ e2]
  exact String.toList_inj.mp (h2 _ _ h1)
theorem ofS_beq (a b : String) : (Str.ofString a == Str.ofString b) = (a == b) := by
  by_cases h : a = b
  · subst h; simp
  · rw [beq_eq_false_iff_ne.mpr h, beq_eq_false_iff_ne.mpr (fun e => h (ofS_inj e))]
section
variable {K : PySem.W.Frag} {mg : Str → Option Value} {m : MH} {F : Addr → Prop} {H : Hp}
theorem look_zip {f : String} {d : D} : ∀ {ns : List String} {vs : List D} {us : List V}, Reps K mg F H vs us → (ns.zip vs).lookup f = some d → ∃ w, ((ns.map Str.ofString).zip us).lookup (Str.ofString f) = some w ∧ Rep K mg F H d w
  | [], _, _, _, e => by cases e
  | n :: ns, [], _, _, e => by cases e
  | n :: ns, v :: vs, us, r, e => by
    obtain ⟨u, r', rfl, h2, h3⟩ := r
    rw [List.zip_cons_cons, List.lookup_cons] at e
    rw [List.map_cons, List.zip_cons_cons, List.lookup_cons, ofS_beq]
    cases q : f == n with
    | true => rw [q] at e; cases e; exact ⟨u, rfl, h2⟩
    | false => rw [q] at e; exact look_zip h3 e
theorem look_none {f : String} : ∀ {ns : List String} {vs : List D} {us : List V}, Reps K mg F H vs us → (ns.zip vs).lookup f = none → ((ns.map Str.ofString).zip us).lookup (Str.ofString f) = none
  | [], _, _, _, e => by rfl
  | n :: ns, [], us, r, e => by
    have r : us = [] := r
    subst r; rfl
  | n :: ns, v :: vs, us, r, e => by
    obtain ⟨u, r', rfl, h2, h3⟩ := r
    rw [List.zip_cons_cons, List.lookup_cons] at e
    rw [List.map_cons, List.zip_cons_cons, List.lookup_cons, ofS_beq]
    cases q : f == n with
    | true => rw [q] at e; cases e
    | false => rw [q] at e; exact look_none h3 e
theorem zip_fs : ∀ fs : List (String × D), (fs.map (·.1)).zip (fs.map (·.2)) = fs
  | [] => rfl
  | p :: fs => by rw [List.map_cons, List.map_cons, List.zip_cons_cons, zip_fs fs]
theorem map_ofS (fs : List (String × D)) : (fs.map fun p => Str.ofString p.1) = (fs.map (·.1)).map Str.ofString := by rw [List.map_map]; rfl
/-- an instance by its tree -/
theorem ins_of {x : D} {v : V} {t : String} (R : RelH K mg m F H) (r : Rep K mg F H x v) (e : tyD m x = some t) (ht : tyNames.contains t = false) :
    ∃ (a C dx : Addr) (us : List (Str × V)), v = .ref a ∧ H a = some (.ins C dx us) ∧ ClsAt K mg t C ∧ (∀ f d, fldD m x f = some d → ∃ w, us.lookup (Str.ofString f) = some w ∧ Rep K mg F H d w) ∧ ∀ f, fldD m x f = none → us.lookup (Str.ofString f) = none := by
  cases x with
  | obj c ns vs =>
    cases e
    obtain ⟨a, C, dx, us, rfl, _, k, z, rr, _⟩ := r
    exact ⟨a, C, dx, _, rfl, z, k, fun f d q => look_zip rr q, fun f q => look_none rr q⟩
  | ref a =>
    cases r
    cases q : m a with
    | none => simp [tyD, q] at e
    | some o =>
      cases o with
      | lst _ => simp [tyD, q] at e; subst e; exact absurd ht (by decide)
      | dic _ => simp [tyD, q] at e; subst e; exact absurd ht (by decide)
      | ins c fs =>
        simp [tyD, q] at e; subst e
        obtain ⟨C, dx, us, k, z, rr⟩ := (R a _ q).2
        rw [map_ofS] at z
        refine ⟨a, C, dx, _, rfl, z, k, fun f d h => look_zip rr ?_, fun f h => look_none rr ?_⟩
        · rw [zip_fs]; simpa [fldD, q] using h
        · rw [zip_fs]; simpa [fldD, q] using h
  | non => cases e; exact absurd ht (by decide)
  | bl _ => cases e; exact absurd ht (by decide)
  | int _ => cases e; exact absurd ht (by decide)
  | str _ => cases e; exact absurd ht (by decide)
  | tup _ => cases e; exact absurd ht (by decide)
  | lst _ => cases e; exact absurd ht (by decide)
  | scr _ => cases e; exact absurd ht (by decide)
  | dic _ _ => cases e; exact absurd ht (by decide)
  | ty _ => cases e
  | gl _ => cases e
  | exc _ _ _ _ => cases e
theorem put_zip {f : String} {d : D} {w : V} (q : Rep K mg F H d w) : ∀ {fs : List (String × D)} {us : List V}, Reps K mg F H (fs.map (·.2)) us → ∃ us', putF (Str.ofString f) w ((fs.map fun p => Str.ofString p.1).zip us) = (((putFD f d fs).map fun p => Str.ofString p.1).zip us') ∧ Reps K mg F H ((putFD f d fs).map (·.2)) us'
  | [], us, r => by
    have r : us = [] := r
    subst r
    exact ⟨[w], rfl, Reps.one q⟩
  | p :: fs, us, r => by
    obtain ⟨u, r', rfl, h2, h3⟩ := r
    obtain ⟨us', i1, i2⟩ := put_zip q (f := f) h3
    unfold putFD
    by_cases h : p.1 = f
    · rw [if_pos h]
      refine ⟨w :: r', ?_, ⟨w, r', rfl, q, h3⟩⟩
      show putF (Str.ofString f) w ((Str.ofString p.1, u) :: _) = _
      unfold putF
      rw [if_pos (by rw [h]), h]; rfl
    · rw [if_neg h]
      refine ⟨u :: us', ?_, ⟨u, us', rfl, h2, i2⟩⟩
      show putF (Str.ofString f) w ((Str.ofString p.1, u) :: _) = _
      unfold putF
      rw [if_neg (fun e => h (ofS_inj e))]
      exact congrArg (fun z => (Str.ofString p.1, u) :: z) i1
end
section
variable {X : Cx} {W : WX} {e : Expr} {f : String} {pos : Pos} {wo wa : WE0} {cf : String → Bool}
/-- o.f -/
theorem ge_attr (hf : ∀ t C, cf t = true → X.mg (Str.ofString t) = some (.ref C) → NoAttr X.K C (Str.ofString f)) (ho : PE X e (RdE X W wo)) (hb : attributeBase e (Str.ofString f) X.env (eval e X.env) = eval e X.env) (hc : ∀ t, cf t = true → tyNames.contains t = false) :
    PE X (.Attribute e (Str.ofString f) pos) (RdE X W fun ρ m Q E => wo ρ m (fun x m1 => getw (tyD m1 x) fun t => cf t = true ∧ getw (fldD m1 x f) fun d => Q d m1) E) :=
  PE.imp (pe_fld ho hb) fun σ H Q ⟨ρ, m, F, Q0, E0, A, q, g, gx⟩ => rd1 A q gx fun x m1 F1 v H1 q1 n1 r1 => by
    obtain ⟨t, e1, e2, q2⟩ := getw_iff.mp q1
    obtain ⟨d, e3, q3⟩ := getw_iff.mp q2
    obtain ⟨a, C, dx, us, rfl, z, k, h1, _⟩ := ins_of n1.rel r1 e1 (hc t e2)
    obtain ⟨w, h2, rw⟩ := h1 f d e3
    exact ⟨a, C, dx, us, w, rfl, z, k.2.1.cls, hf t C e2 k.1, h2, g _ _ _ _ _ q3 n1 rw⟩
/-- isinstance(x, C), C a class of one's own -/
theorem ge_frz (ho : PE X e (RdE X W wo)) : PE X e (RdE X W fun ρ m Q E => wo ρ m (fun v m1 => getw (frzD m1 v) fun z => Q z.1 z.2) E) :=
  PE.imp ho fun σ H Q ⟨ρ, m, F, Q0, E0, A, q, g, gx⟩ => rd1 A q gx fun x m1 F1 v H1 q1 n1 r1 => by
    obtain ⟨z, e1, q2⟩ := getw_iff.mp q1
    obtain ⟨F', n2, r2⟩ := frz_rep n1.rel r1 e1
    exact g _ _ _ _ _ q2 (n1.trans n2) r2
theorem set_rep {m1 m2 : MH} {F : Addr → Prop} {H : Hp} {x d : D} {v w : V} {t : String} (R : RelH X.K X.mg m1 F H) (r : Rep X.K X.mg F H x v) (rd : Rep X.K X.mg F H d w) (e : tyD m1 x = some t) (e2 : setFD m1 x f d = some m2) :
    ∃ (a C dx : Addr) (us : List (Str × V)), v = .ref a ∧ H a = some (.ins C dx us) ∧ us.length < 1000 ∧ ClsAt X.K X.mg t C ∧ Nx X.K X.mg m1 F H m2 F (upd H a (.ins C dx (putF (Str.ofString f) w us))) := by
  cases x with
  | ref a =>
    cases r
    unfold setFD at e2
    cases q : m1 a with
    | none => simp [q] at e2
    | some o =>
      cases o with
      | lst _ => simp [q] at e2
      | dic _ => simp [q] at e2
      | ins c fs =>
        simp only [q] at e2
        split at e2
        · rename_i hl
          cases e2
          simp [tyD, q] at e; subst e
          obtain ⟨C, dx, us, k, z, rr⟩ := (R a _ q).2
          refine ⟨a, C, dx, _, rfl, z, ?_, k, ?_⟩
          · have := rr.len
            rw [List.length_map] at this
            rw [List.length_zip, List.length_map]
            omega
          · obtain ⟨us', i1, i2⟩ := put_zip rd (f := f) rr
            rw [i1]
            exact Nx.wr R q fun _ hs => ⟨C, dx, us', k, upd_same, hs _ _ i2⟩
        · cases e2
  | _ => cases e2
end
end PT
end
section
set_option linter.all false
set_option maxRecDepth 100000
set_option maxHeartbeats 4000000
/-! PtW: fields set, isinstance of a class of one's own. -/
namespace PT
open PySem PySem.Spec PyProof.Rows L2

section
variable {X : Cx} {W : WX} {e o : Expr} {f : String} {pos pos' : Pos} {wo wa : WE0} {cf : String → Bool}
/-- o.f = e -/
theorem gs_seta (hf : ∀ t C, cf t = true → X.mg (Str.ofString t) = some (.ref C) → NoAttr X.K C (Str.ofString f)) (ho : PE X o (RdE X W wo)) (he : PE X e (RdE X W wa)) (hs : swapsWith e (some (.Attribute o (Str.ofString f) pos')) pos.line X.env = pure false) :
    PS X (.Assign [.Attribute o (Str.ofString f) pos'] e pos) (RdS X W fun ρ m K => wa ρ m (fun v m1 => wo ρ m1 (fun x m2 => getw (tyD m2 x) fun t => cf t = true ∧ getw (setFD m2 x f v) fun m3 => K.nx ρ m3) (K.xc ρ)) (K.xc ρ)) :=
  PS.imp (ps_fld ho he hs) fun D σ H ⟨ρ, m, F, K, A, h, g⟩ => rd1 A h (g.gx A) fun d m1 F1 v H1 q1 n1 r1 => rd1 (A.nx n1) q1 ((g.nx' n1).gx (A.nx n1)) fun x m2 F2 w H2 q2 n2 r2 => by
    obtain ⟨t, e1, e2, q3⟩ := getw_iff.mp q2
    obtain ⟨m3, e3, q4⟩ := getw_iff.mp q3
    obtain ⟨a, C, dx, us, rfl, z, hl, k, n3⟩ := set_rep n2.rel r2 (Rep.ext n2.ext _ _ r1) e1 e3
    exact ⟨a, C, dx, us, rfl, z, k.2.1.cls, hf t C e2 k.1, hl, g.nx _ _ _ _ _ q4 ((A.nx (n1.trans n2)).nx n3) ((n1.trans n2).trans n3)⟩
/-- what an augmented operator does on two ints -/
def rdI (op : BOp) : V → V → Hp → VK → Prop := match op with
  | .add => rAdd
  | .sub => rSub
  | _ => fun _ _ _ _ => False
theorem in_I (op : BOp) : InOp X (bopOf op) (rdI op) := by
  cases op with
  | add => exact in_add
  | sub => exact in_sub
  | _ => exact fun _ _ _ _ _ _ _ _ _ _ _ _ h => h.elim
/-- o.f op= e -/
theorem gs_auga {op : BOp} (hf : ∀ t C, cf t = true → X.mg (Str.ofString t) = some (.ref C) → NoAttr X.K C (Str.ofString f)) (hc : ∀ t, cf t = true → tyNames.contains t = false) (ho : PE X o (RdE X W wo)) (he : PE X e (RdE X W wa)) :
    PS X (.AugAssign (.Attribute o (Str.ofString f) pos') (bopOf op) e pos) (RdS X W fun ρ m K => wo ρ m (fun x m1 => getw (tyD m1 x) fun t => cf t = true ∧ getw (fldD m1 x f) fun d => wa ρ m1 (fun y m2 => getw (augI op d y) fun z => tyD m2 x = some t ∧ getw (setFD m2 x f z) fun m3 => K.nx ρ m3) (K.xc ρ)) (K.xc ρ)) :=
  PS.imp (ps_fldaug ho he (in_I op)) fun D' σ H ⟨ρ, m, F, K, A, h, g⟩ => rd1 A h (g.gx A) fun x m1 F1 v H1 q1 n1 r1 => by
    obtain ⟨t, e1, e2, q2⟩ := getw_iff.mp q1
    obtain ⟨d, e3, q3⟩ := getw_iff.mp q2
    obtain ⟨a, C, dx, us, rfl, z, k, h1, _⟩ := ins_of n1.rel r1 e1 (hc t e2)
    obtain ⟨w, h2, rw⟩ := h1 f d e3
    refine ⟨a, C, dx, us, w, rfl, z, k.2.1.cls, hf t C e2 k.1, h2, rd1 (A.nx n1) q3 ((g.nx' n1).gx (A.nx n1)) fun y m2 F2 yv H2 q4 n2 r2 => ?_⟩
    obtain ⟨z, e4, e5, q5⟩ := getw_iff.mp q4
    obtain ⟨m3, e6, q6⟩ := getw_iff.mp q5
    have rw' := Rep.ext n2.ext _ _ rw
    have fin : ∀ {zd : D} {zv : V}, setFD m2 x f zd = some m3 → Rep X.K X.mg F2 H2 zd zv → ∃ dx' fs', H2 a = some (.ins C dx' fs') ∧ fs'.length < 1000 ∧ D'.nx σ (upd H2 a (.ins C dx' (putF (Str.ofString f) zv fs'))) := by
      intro zd zv e6 rz
      obtain ⟨a', C', dx', us', ea, z', hl, k', n3⟩ := set_rep n2.rel (Rep.ext n2.ext _ _ r1) rz e5 e6
      cases ea
      have : C' = C := by
        have h1 := k.1.symm.trans k'.1
        injection h1 with h1
        injection h1 with h1
        exact h1.symm
      subst this
      exact ⟨dx', us', z', hl, g.nx _ _ _ _ _ q6 ((A.nx (n1.trans n2)).nx n3) ((n1.trans n2).trans n3)⟩
    unfold augI at e4
    split at e4
    · cases e4
      cases rw'; cases r2
      exact ⟨_, _, rfl, rfl, fin e6 rfl⟩
    · cases e4
      cases rw'; cases r2
      exact ⟨_, _, rfl, rfl, fin e6 rfl⟩
    · cases e4
end
/-- what is asked of a class of one's own in isinstance -/
structure IsiOk (K : PySem.W.Frag) (mg : Str → Option Value) (cls : String → Bool) (x : String) : Prop where
  ex : ∃ C, ClsAt K mg x C ∧ (∀ n ∈ tyNames, PySem.W.kitOne K (.type n) (.ref C) = some false) ∧ ∀ t C', cls t = true → mg (Str.ofString t) = some (.ref C') → PySem.W.kitOne K (.ref C') (.ref C) = some (t == x)
section
variable {X : Cx} {W : WX} {e : Expr} {x : String} {pos p1 p2 : Pos} {wa : WE0} {cls : String → Bool}
/-- isinstance(e, C) -/
theorem ge_isi (io : IsiOk X.K X.mg cls x) (hg : Gl X "isinstance") (hm : X.mg "isinstance" = none) (hgx : Gl X (Str.ofString x)) (hd : (Str.ofString x == ("__debug__" : Str)) = false) (he : PE X e (RdE X W wa)) (hst : starEach [e, .Name (Str.ofString x) p2] X.env = (false, eval e X.env) :: starEach [.Name (Str.ofString x) p2] X.env) (hcx : cls x = true) :
    PE X (.Call (.Name "isinstance" p1) [e, .Name (Str.ofString x) p2] [] pos) (RdE X W fun ρ m Q E => wa ρ m (fun v m1 => getw (tyD m1 v) fun t => (cls x = true ∧ (tyNames.contains t || cls t) = true) ∧ Q (.bl (t == x)) m1) E) := by
  obtain ⟨C, kx, h1, h2⟩ := io.ex
  have boot : bootBuiltins "isinstance" = some (.builtin "isinstance") := boot_isinstance
  have pn : PE X (.Name (Str.ofString x) p2) (tC (.ref C)) := pe_glob hgx kx.1 rfl hd
  refine PE.imp (pe_callB call_isi hg hm boot (pa_cons he (pa_cons pn pa_nil) hst) (he := hst) (hpl := rfl)) fun σ H Q ⟨ρ, m, F, Q0, E0, A, q, g, gx⟩ => rd1 A q gx fun d m1 F1 v H1 q1 n1 r1 => ?_
  obtain ⟨t, e1, ⟨_, e2⟩, q2⟩ := getw_iff.mp q1
  obtain ⟨u, tx, ⟨rfl, tn⟩ | ⟨C', rfl, k⟩⟩ := tyD_rep n1.rel r1 e1
  · refine ⟨v, .ref C, .type t, .ref C, t == x, rfl, .own C, tx, ?_, g _ _ _ _ _ q2 n1 rfl⟩
    have : (t == x) = false := beq_eq_false_iff_ne.mpr fun z => by
      have h3 := kx.2.2
      rw [← z] at h3
      rw [List.contains_iff_mem.mpr tn] at h3; cases h3
    rw [this]
    exact h1 t tn
  · refine ⟨v, .ref C, .ref C', .ref C, t == x, rfl, .own C, tx, h2 t C' ?_ k.1, g _ _ _ _ _ q2 n1 rfl⟩
    rw [k.2.2] at e2
    simpa using e2
end
end PT
end
section
set_option linter.all false
set_option maxRecDepth 100000
set_option maxHeartbeats 4000000
/-! PtX: classes called, methods. -/
namespace PT
open PySem PySem.Spec PyProof.Rows L2

/-- {} -/
theorem ge_newd {X : Cx} {W : WX} {pos : Pos} : PE X (.Dict [] [] pos) (RdE X W fun _ m Q _ => ∀ p, m p = none → Q (.ref p) (m.set p (.dic []))) :=
  PE.imp pe_dnewK fun σ H Q ⟨ρ, m, F, Q0, E0, A, h, g, gx⟩ p hp => g _ _ _ _ _ (h p (A.rel.free hp)) (Nx.newM A.rel hp fun _ => ⟨[], [], upd_same, rfl, rfl, Nat.zero_le _⟩) rfl
/-! ### dict displays with text keys -/
section
variable {X : Cx} {W : WX} {pos : Pos}
def trsOf (c : Cfg) (X : Cx) (W : WX) : List (List Nat) → List Ex → List (TE × TE)
  | k :: ks, e :: es => (tC (.str (mkS k)), RdE X W (wpE c e)) :: trsOf c X W ks es
  | _, _ => []
theorem tp_of {c : Cfg} : ∀ (ks : List (List Nat)) (es : List Ex) {σ : L2.St} {H : Hp} {Q : List (V × V) → Hp → Prop}, ks.length = es.length → RdA X W es.length (wpEs c es) σ H (fun vs H' => Q ((ks.map fun k => V.str (mkS k)).zip vs) H') → tPairs (trsOf c X W ks es) σ H Q
  | [], [], σ, H, Q, _, ⟨ρ, m, F, Q0, E0, A, q, g, gx⟩ => g [] m F [] H rfl q (.same A.rel) rfl
  | [], _ :: _, _, _, _, h, _ => by cases h
  | _ :: _, [], _, _, _, h, _ => by cases h
  | k :: ks, e :: es, σ, H, Q, h, ⟨ρ, m, F, Q0, E0, A, q, g, gx⟩ => rd1 (wa := wpE c e) A q gx fun d m1 F1 v H1 q1 n1 r1 =>
    tp_of ks es (Q := fun ps H3 => Q ((V.str (mkS k), v) :: ps) H3) (Nat.succ.inj h) ⟨ρ, m1, F1, _, E0, A.nx n1, q1, fun ds m2 F2 vs H2 l2 q2 n2 r2 => g (d :: ds) m2 F2 (v :: vs) H2 (congrArg Nat.succ l2) q2 (n1.trans n2) ⟨v, vs, rfl, Rep.ext n2.ext _ _ r1, r2⟩, gx.nx n1⟩
end
theorem Nx.thawM {K : PySem.W.Frag} {mg : Str → Option Value} {m m1 : MH} {F F1 : Addr → Prop} {H H1 : Hp} {p : Addr} {o : MO} (n : Nx K mg m1 F1 H1 m F H) (h0 : H1 p = none) (nf : ¬ F p) (nm : m p = none) (r : MRep K mg F H p o) : Nx K mg m1 F1 H1 (m.set p o) F H := by
  refine ⟨n.ext, fun a u h1 h2 h3 => ?_, fun a u q => ?_⟩
  · obtain ⟨g1, g2, g3⟩ := n.kept a u h1 h2 h3
    exact ⟨g1, by rw [MH.set_ne (ne_of_none h3 h0)]; exact g2, g3⟩
  · by_cases ha : a = p
    · subst ha
      rw [MH.set_same] at q; cases q
      exact ⟨nf, r⟩
    · rw [MH.set_ne ha] at q
      exact n.rel a u q
theorem merge_new : ∀ (more acc : List (Key × V)), (∀ p ∈ more, valV acc p.1 = none) → (more.map (·.1)).Nodup → mergeK acc more = acc ++ more
  | [], acc, _, _ => by rw [List.append_nil]; rfl
  | p :: r, acc, h, nd => by
    rw [List.map_cons, List.nodup_cons] at nd
    have e : putK acc p.1 p.2 = acc ++ [p] := putK_new p.2 (h p (List.mem_cons_self ..))
    show mergeK (putK acc p.1 p.2) r = _
    rw [e, merge_new r (acc ++ [p]) (fun q hq => ?_) nd.2, List.append_assoc]; rfl
    rw [valV_snoc p.1 q.1 p.2 acc (h p (List.mem_cons_self ..)), if_neg (fun z => nd.1 (by rw [← z]; exact List.mem_map_of_mem hq))]
    exact h q (List.mem_cons_of_mem _ hq)
theorem keysD_strs : ∀ ks : List (List Nat), keysD (ks.map D.str) = some (ks.map fun k => Sum.inr (mkS k))
  | [] => rfl
  | k :: ks => by
    rw [List.map_cons]
    unfold keysD
    rw [keysD_strs ks]; rfl
theorem zip_fst {α β : Type} : ∀ {xs : List α} {ys : List β}, xs.length = ys.length → (xs.zip ys).map (·.1) = xs
  | [], [], _ => rfl
  | [], _ :: _, h => by cases h
  | _ :: _, [], h => by cases h
  | x :: xs, y :: ys, h => by rw [List.zip_cons_cons, List.map_cons, zip_fst (Nat.succ.inj h)]
theorem zip_snd {α β : Type} : ∀ {xs : List α} {ys : List β}, xs.length = ys.length → (xs.zip ys).map (·.2) = ys
  | [], [], _ => rfl
  | [], _ :: _, h => by cases h
  | _ :: _, [], h => by cases h
  | x :: xs, y :: ys, h => by rw [List.zip_cons_cons, List.map_cons, zip_snd (Nat.succ.inj h)]
theorem zip_kv : ∀ {ks : List (List Nat)} {vs : List V}, vs.length = ks.length → (ks.map fun k => V.str (mkS k)).zip vs = ((ks.map fun k => (Sum.inr (mkS k) : Key)).zip vs).map fun kv => (kV kv.1, kv.2)
  | [], _, _ => rfl
  | _ :: _, [], _ => rfl
  | k :: ks, v :: vs, h => by
    rw [List.map_cons, List.map_cons, List.zip_cons_cons, List.zip_cons_cons, List.map_cons, zip_kv (Nat.succ.inj h)]; rfl
theorem ge_dlit {X : Cx} {W : WX} {pos : Pos} {c : Cfg} {ks : List (List Nat)} {es : List Ex} {kes : List (Option Expr)} {ves : List Expr} (h : PPs X pos kes ves (trsOf c X W ks es)) (hall : kes.all (·.isSome) = true) (hl : kes.length = ves.length) (h0 : kes ≠ [])
    (h15 : kes.length ≤ 15) (le : ks.length = es.length) (lk : kes.length = ks.length) (nd : ks.Nodup) :
    PE X (.Dict kes ves pos) (RdE X W fun ρ m Q E => wpEs c es ρ m (fun ds m1 => ∀ p, m1 p = none → Q (.ref p) (m1.set p (.dic ((ks.map D.str).zip ds)))) E) :=
  PE.imp (pe_disp h hall hl h0 h15) fun σ H Q ⟨ρ, m, F, Q0, E0, A, q, g, gx⟩ p hp => by
    have hid : Nx X.K X.mg m F H m (delF F p) (upd H p (.dK [])) := .hide A.rel hp
    refine tp_of ks es le ⟨ρ, m, delF F p, _, E0, A.nx hid, q, fun ds m1 F1 vs H1 l1 q1 n1 r1 => ?_, gx.nx hid⟩
    obtain ⟨nf, nm, eD⟩ := n1.kept p (.dK []) (fun z => z.1 rfl) (A.rel.free hp) upd_same
    have lv : vs.length = ks.length := by rw [← r1.len, l1, le]
    have ld : (ks.map D.str).length = ds.length := by rw [List.length_map, l1, le]
    have lz : (ks.map fun k => (Sum.inr (mkS k) : Key)).length = vs.length := by rw [List.length_map, lv]
    refine ⟨eD, (ks.map fun k => Sum.inr (mkS k)).zip vs, ?_, by rw [zip_len lz, List.length_map, ← lk]; exact h15, ?_⟩
    · exact zip_kv lv
    · have ndk : ((ks.map fun k => (Sum.inr (mkS k) : Key))).Nodup := by
        refine List.Pairwise.map _ (fun a b hab e => hab ?_) nd
        exact mkS_inj (Sum.inr.inj e)
      rw [merge_new _ [] (fun _ _ => rfl) (by rw [zip_fst lz]; exact ndk), List.nil_append]
      have n2 := (hid.trans n1).wrHid (o := .dK ((ks.map fun k => (Sum.inr (mkS k) : Key)).zip vs)) hp nf nm
      refine g _ _ F1 _ _ (q1 p nm) (n2.thawM hp nf nm ⟨_, vs, upd_same, by rw [zip_fst ld]; exact keysD_strs ks, by rw [zip_snd ld]; exact Reps.ext (ext_hid nf) _ _ r1, ?_⟩) rfl
      rw [zip_len ld, List.length_map, ← lk, sizeLine_eq]; omega
/-! ### dicts read -/
section
variable {K : PySem.W.Frag} {mg : Str → Option Value} {m : MH} {F : Addr → Prop} {H : Hp}
theorem dic_rep {x : D} {v : V} {kvs : List (D × D)} (R : RelH K mg m F H) (r : Rep K mg F H x v) (e : dicOf m x = some kvs) :
    ∃ (a : Addr) (ls : List Key) (us : List V), v = .ref a ∧ H a = some (.dK (ls.zip us)) ∧ keysD (kvs.map (·.1)) = some ls ∧ Reps K mg F H (kvs.map (·.2)) us ∧ kvs.length ≤ sizeLine := by
  cases x with
  | dic ks vs =>
    cases e
    obtain ⟨a, ls, us, h1, _, h2, h3, h4, h5, h6⟩ := r
    have l1 := keysD_len h3
    have l2 := h4.len
    have l3 : ks.length = vs.length := by omega
    exact ⟨a, ls, us, h1, h2, by rw [zip_fst l3]; exact h3, by rw [zip_snd l3]; exact h4, by rw [List.length_zip]; omega⟩
  | ref a =>
    cases r
    unfold dicOf at e
    cases q : m a with
    | none => simp [q] at e
    | some o =>
      cases o with
      | dic kvs' =>
        simp only [q] at e
        cases e
        obtain ⟨ls, us, h1, h2, h3, h4⟩ := (R a _ q).2
        exact ⟨a, ls, us, rfl, h1, h2, h3, h4⟩
      | lst _ => simp [q] at e
      | ins _ _ => simp [q] at e
  | _ => cases e
theorem keq_key {a b : D} {k l : Key} (ha : keyD a = some k) (hb : keyD b = some l) : a.keq b = decide (k = l) := by
  cases a with
  | int i =>
    cases ha
    cases b with
    | int j => cases hb; by_cases h : i = j <;> simp [D.keq, h]
    | str t => cases hb; simp [D.keq]
    | _ => cases hb
  | str s =>
    cases ha
    cases b with
    | int j => cases hb; simp [D.keq]
    | str t =>
      cases hb
      by_cases h : s = t
      · simp [D.keq, h]
      · have : mkS s ≠ mkS t := fun z => h (mkS_inj z)
        simp [D.keq, h, this]
    | _ => cases hb
  | _ => cases ha
theorem lookK_rep {y : D} {k : Key} (hk : keyD y = some k) : ∀ {kvs : List (D × D)} {ls : List Key} {us : List V}, keysD (kvs.map (·.1)) = some ls → Reps K mg F H (kvs.map (·.2)) us →
    (lookK kvs y = none → valV (ls.zip us) k = none) ∧ (∀ d, lookK kvs y = some d → ∃ u, valV (ls.zip us) k = some u ∧ Rep K mg F H d u)
  | [], ls, us, e, r => by
    cases e; cases r
    exact ⟨fun _ => rfl, fun d z => by cases z⟩
  | p :: kvs, ls, us, e, r => by
    obtain ⟨k1, ls', h1, h2, rfl⟩ := keysD_cons e
    obtain ⟨u, us', rfl, h3, h4⟩ := r
    obtain ⟨i1, i2⟩ := lookK_rep hk (kvs := kvs) h2 h4
    have q := keq_key h1 hk
    rw [List.zip_cons_cons]
    by_cases h : k1 = k
    · have e2 : lookK (p :: kvs) y = some p.2 := by unfold lookK; rw [List.find?_cons, q, decide_eq_true h]; rfl
      rw [valV_pos h, e2]
      exact ⟨fun z => (by cases z), fun d z => (by cases z; exact ⟨u, rfl, h3⟩)⟩
    · have e2 : lookK (p :: kvs) y = lookK kvs y := by unfold lookK; rw [List.find?_cons, q, decide_eq_false h]
      rw [valV_neg h, e2]
      exact ⟨i1, i2⟩
theorem key_rep {y : D} {v : V} (h : y.isK = true) (r : Rep K mg F H y v) : ∃ k, keyD y = some k ∧ v = kV k := by
  cases y with
  | int i => cases r; exact ⟨_, rfl, rfl⟩
  | str s => obtain ⟨rfl, _⟩ := r; exact ⟨_, rfl, rfl⟩
  | _ => cases h
theorem dget_rep {x y : D} {v w : V} (R : RelH K mg m F H) (rx : Rep K mg F H x v) (ry : Rep K mg F H y w) (hy : y.isK = true) {kvs : List (D × D)} (e : dicOf m x = some kvs) :
    ∃ a o, v = .ref a ∧ DGet H a w o ∧ (lookK kvs y = none → o = none) ∧ ∀ d, lookK kvs y = some d → ∃ u, o = some u ∧ Rep K mg F H d u := by
  obtain ⟨a, ls, us, rfl, h1, h2, h3, _⟩ := dic_rep R rx e
  obtain ⟨k, hk, rfl⟩ := key_rep hy ry
  obtain ⟨i1, i2⟩ := lookK_rep hk h2 h3
  exact ⟨a, _, rfl, DGet.k h1, i1, i2⟩
end
section
variable {X : Cx} {W : WX} {a b : Expr} {wa wb : WE0} {pos : Pos}
theorem din_key {neg : Bool} {ρ : Env0} {m : MH} {F : Addr → Prop} {σ : L2.St} {H : Hp} {Q0 : Bool → MH → Prop} {E0 : QX} {Q : Bool → Hp → Prop} (A : At X ρ m F σ H) (h : wa ρ m (fun y m1 => wb ρ m1 (fun x m2 => getw (dinD m2 x y) fun z => Q0 (z != neg) m2) E0) E0)
    (g : ∀ b m' F' H', Q0 b m' → Nx X.K X.mg m F H m' F' H' → Q b H') (gx : GoX X W σ m F H E0) :
    RdE X W wa σ H fun y H1 => RdE X W wb σ H1 fun x H2 => ∃ a o, x = .ref a ∧ DGet H2 a y o ∧ Q (o.isSome != neg) H2 := rd1 A h gx fun y m1 F1 v H1 q1 n1 r1 => rd1 (A.nx n1) q1 (gx.nx n1) fun x m2 F2 w H2 q2 n2 r2 => by
  obtain ⟨z, e, q3⟩ := getw_iff.mp q2
  unfold dinD at e
  split at e
  · rename_i hk
    obtain ⟨kvs, e1, rfl⟩ := Option.map_eq_some_iff.mp e
    obtain ⟨a, o, rfl, hd, h1, h2⟩ := dget_rep n2.rel r2 (Rep.ext n2.ext _ _ r1) hk e1
    refine ⟨a, o, rfl, hd, g _ _ _ _ ?_ (n1.trans n2)⟩
    cases q : lookK kvs y with
    | none => rw [h1 q]; rw [q] at q3; exact q3
    | some d => obtain ⟨u, e2, _⟩ := h2 d q; rw [e2]; rw [q] at q3; exact q3
  · cases e
theorem rdE_imp' {w : WE0} {σ : L2.St} {H : Hp} {Q Q' : VK} (h : RdE X W w σ H Q) (hi : ∀ v H', Q v H' → Q' v H') : RdE X W w σ H Q' :=
  let ⟨ρ, m, F, Q0, E0, A, h, g, gx⟩ := h
  ⟨ρ, m, F, Q0, E0, A, h, fun d m' F' v H' a b c => hi _ _ (g d m' F' v H' a b c), gx⟩
theorem ge_din {neg : Bool} (hu : X.A.units + 64 < cLine) (ha : PE X a (RdE X W wa)) (hb : PE X b (RdE X W wb)) (hm : behindInMarks (copOf (if neg then .nin else .in_)) b = false) :
    PE X (.Compare a [copOf (if neg then .nin else .in_)] [b] pos) (RdE X W fun ρ m Q E => wa ρ m (fun y m1 => wb ρ m1 (fun x m2 => getw (dinD m2 x y) fun z => Q (.bl (z != neg)) m2) E) E) := by
  cases neg with
  | false => exact PE.imp (pe_cmp (pc_din (by omega) ha hb) hm) fun σ H Q ⟨ρ, m, F, Q0, E0, A, h, g, gx⟩ =>
      rdE_imp' (din_key (Q0 := fun b m => Q0 (.bl b) m) (Q := fun b H => Q (.bl b) H) A h (fun b m' F' H' q n => g _ _ _ _ _ q n rfl) gx) fun y H1 h1 => rdE_imp' h1 fun x H2 ⟨a, o, e, d, q⟩ => ⟨a, o, e, d, by simpa using q⟩
  | true => exact PE.imp (pe_cmp (pc_dnotin (by omega) ha hb) hm) fun σ H Q ⟨ρ, m, F, Q0, E0, A, h, g, gx⟩ =>
      rdE_imp' (din_key (Q0 := fun b m => Q0 (.bl b) m) (Q := fun b H => Q (.bl b) H) A h (fun b m' F' H' q n => g _ _ _ _ _ q n rfl) gx) fun y H1 h1 => rdE_imp' h1 fun x H2 ⟨a, o, e, d, q⟩ => ⟨a, o, e, d, by simpa using q⟩
theorem gt_din {neg : Bool} (hu : X.A.units + 64 < cLine) (ha : PE X a (RdE X W wa)) (hb : PE X b (RdE X W wb)) (hm : behindInMarks (copOf (if neg then .nin else .in_)) b = false) :
    L2.PT X (.Compare a [copOf (if neg then .nin else .in_)] [b] pos) (RdT X W fun ρ m Q E => wa ρ m (fun y m1 => wb ρ m1 (fun x m2 => getw (dinD m2 x y) fun z => Q (z != neg) m2) E) E) := by
  cases neg with
  | false => exact PT.imp (pt_cmp (pc_din (by omega) ha hb) hm) fun σ H Q ⟨ρ, m, F, Q0, E0, A, h, g, gx⟩ =>
      rdE_imp' (din_key (Q0 := Q0) (Q := Q) A h g gx) fun y H1 h1 => rdE_imp' h1 fun x H2 ⟨a, o, e, d, q⟩ => ⟨a, o, e, d, _, rfl, by simpa using q⟩
  | true => exact PT.imp (pt_cmp (pc_dnotin (by omega) ha hb) hm) fun σ H Q ⟨ρ, m, F, Q0, E0, A, h, g, gx⟩ =>
      rdE_imp' (din_key (Q0 := Q0) (Q := Q) A h g gx) fun y H1 h1 => rdE_imp' h1 fun x H2 ⟨a, o, e, d, q⟩ => ⟨a, o, e, d, _, rfl, by simpa using q⟩
theorem ge_dget (hu : X.A.units + 64 < cLine) (ha : PE X a (RdE X W wa)) (hb : PE X b (RdE X W wb)) (hs : NoSl b) :
    PE X (.Subscript a b pos) (RdE X W fun ρ m Q E => wa ρ m (fun x m1 => wb ρ m1 (fun y m2 => getw (dgetD m2 x y) fun z => Q z m2) E) E) :=
  PE.imp (pe_dget (by omega) ha hb hs) fun σ H Q ⟨ρ, m, F, Q0, E0, A, h, g, gx⟩ => rd1 A h gx fun x m1 F1 v H1 q1 n1 r1 => rd1 (A.nx n1) q1 (gx.nx n1) fun y m2 F2 w H2 q2 n2 r2 => by
    obtain ⟨z, e, q3⟩ := getw_iff.mp q2
    unfold dgetD at e
    split at e
    · rename_i hk
      obtain ⟨kvs, e1, e2⟩ := Option.bind_eq_some_iff.mp e
      obtain ⟨a, o, rfl, hd, h1, h2⟩ := dget_rep n2.rel (Rep.ext n2.ext _ _ r1) r2 hk e1
      obtain ⟨u, rfl, ru⟩ := h2 z e2
      exact ⟨a, u, rfl, hd, g _ _ _ _ _ q3 (n1.trans n2) ru⟩
    · cases e
/-! ### xs[::-1] -/
end
theorem adj_rev (n : Nat) : Builtin.Slice.sliceAdjust none none (-1) (n : Int) = ((n : Int) - 1, -1) := by
  unfold Builtin.Slice.sliceAdjust
  simp
theorem places_rev (n : Nat) : Builtin.Slice.slicePlaces ((n : Int) - 1) (-1) (-1) = n := by
  unfold Builtin.Slice.slicePlaces
  rw [if_neg (by decide)]
  by_cases h : (n : Int) - 1 > -1
  · rw [if_pos h, show (- -1 : Int) = 1 by decide, Int.ediv_one]; omega
  · rw [if_neg h]; omega
theorem pick_rev (xs : Array Value) : ((List.range xs.size).filterMap fun (k : Nat) => xs[(((xs.size : Int) - 1) + (k : Int) * (-1)).toNat]?).toArray = xs.toList.reverse.toArray := by
  congr 1
  have h : ((List.range xs.size).map fun k => xs.size - 1 - k).filterMap (xs[·]?) = xs.toList.reverse := by
    rw [PySem.W.krv_range, List.filterMap_reverse, PySem.W.krv_all]
  rw [← h, List.filterMap_map]
  congr 1
  funext k
  have e : (((xs.size : Int) - 1) + (k : Int) * (-1)).toNat = xs.size - 1 - k := by omega
  show xs[(((xs.size : Int) - 1) + (k : Int) * (-1)).toNat]? = xs[xs.size - 1 - k]?
  rw [e]
section
open HT
variable {prog : Program} {w : World} {A : Around} {E : Value → Shared → Prop} {s : Shared}
theorem getItem_tuple_rev {t sl : Addr} {items : Array Value} {vs : Value} {Q : Value → Shared → Prop} (ht : IsTup s.heap t items) (hs : s.heap.IsSliceOf sl .none .none vs) (ps : IsPart vs (some (-1)))
    (h : Q (.ref s.heap.objs.size) { s with heap := s.heap.push { cls := .type "tuple", data := .seq items.toList.reverse.toArray } })
    (hsz : items.size ≤ sizeLine) : wpAny (model prog w) A (getItem (.ref t) (.ref sl)) Q E s := by
  have htake : sizeOk (.seq items.toList.reverse.toArray) := by
    show items.toList.reverse.toArray.size ≤ sizeLine
    rw [List.size_toArray, List.length_reverse, Array.length_toList]
    exact hsz
  obtain ⟨os, hos, hcs, hds⟩ := id hs
  have hTs : s.TypeIs (.ref sl) "slice" := ⟨os, hos, hcs⟩
  unfold getItem
  try with_reducible refine wpAny_holding ?_
  first | refine wpAny_bind (wpAny_pure ?_) | skip
  refine wpAny_bind (wpAny_sequenceKey ht.typeIs (by decide) ?_)
  refine wpAny_bind (wpAny_callSpecial?_slot (name := Str.ofString "__getitem__") ht.typeIs PyProof.Rows.slot_tuple_getitem
    (wpAny_call_entry PyProof.Rows.slot_tuple_getitem ht.typeIs entry_tuple_getitem ?_ (args_tuple_getitem _ _)))
  show wpAny _ _ (Builtin.Tuple.tupleItemsOf (.ref t) >>= _) _ _ s
  refine wpAny_bind (tupleItemsOf_ ht ?_)
  refine wpAny_bind (wpAny_typeOf hTs ?_)
  rw [if_pos (by decide)]
  have ap : ∀ {A' : Around} {Q' : Int × Int × Nat → Shared → Prop} {E' : Value → Shared → Prop}, Q' ((items.size : Int) - 1, -1, items.size) s → wpAny (model prog w) A' (Builtin.Slice.sliceApplied (.ref sl) (pure (items.size : Int))) Q' E' s := by
    intro A' Q' E' hq
    unfold Builtin.Slice.sliceApplied Builtin.Slice.sliceFields
    refine wpAny_bind (wpAny_bind (wpAny_field hos hds (x := .none) rfl (wpAny_bind (wpAny_field hos hds (x := .none) rfl (wpAny_bind (wpAny_field hos hds (x := vs) rfl (wpAny_pure ?_)))))))
    refine wpAny_bind (slicePart_ ps ?_)
    show wpAny _ _ (if ((-1 : Int) == 0) = true then _ else _) _ _ s
    rw [if_neg (by decide)]
    refine wpAny_bind (slicePart_none (wpAny_bind (slicePart_none (wpAny_bind (wpAny_pure ?_)))))
    show wpAny _ _ (match Builtin.Slice.sliceAdjust none none (-1) (items.size : Int) with | (lo, hi) => pure (lo, (-1 : Int), Builtin.Slice.slicePlaces lo hi (-1))) _ _ s
    rw [adj_rev]
    show wpAny _ _ (pure ((items.size : Int) - 1, (-1 : Int), Builtin.Slice.slicePlaces ((items.size : Int) - 1) (-1) (-1))) _ _ s
    rw [places_rev]
    exact wpAny_pure hq
  refine wpAny_bind (ap ?_)
  have hno : ¬ ((((items.size : Int) - 1) == 0 && (-1 : Int) == 1 && items.size == items.size) = true) := by simp
  show wpAny _ _ (if (((items.size : Int) - 1) == 0 && (-1 : Int) == 1 && items.size == items.size) = true then _ else _) _ _ s
  rw [if_neg hno, pick_rev]
  first
    | exact wpAny_bind (m := Builtin.Tuple.tupleExact _) (wpAny_newObj_type (wpAny_pure ⟨_, rfl, wpAny_pure h⟩) htake)
    | exact wpAny_bind (m := Builtin.Tuple.tupleExact _) (wpAny_newObj_type (wpAny_bind (wpAny_pure (wpAny_pure ⟨_, rfl, wpAny_pure h⟩))) htake)
    | exact wpAny_bind (wpAny_bind (m := Builtin.Tuple.tupleExact _) (wpAny_newObj_type (wpAny_pure (wpAny_pure ⟨_, rfl, wpAny_pure h⟩)) htake))
    | exact wpAny_bind (wpAny_bind (m := Builtin.Tuple.tupleExact _) (wpAny_newObj_type (wpAny_pure ⟨_, rfl, wpAny_pure h⟩) htake))
end
/-- the reading of e[::-1] -/
def tRevA (K : PySem.W.Frag) (te : TE) : TE := fun σ H Q => te σ H fun x H1 => (∃ a xs, x = .ref a ∧ SqL K H1 a xs ∧ ∀ p, H1 p = none → Q (.ref p) (upd H1 p (.lst xs.reverse))) ∨ (∃ a xs, x = .ref a ∧ SqT K H1 a xs ∧ ∀ p, H1 p = none → Q (.ref p) (upd H1 p (.tup xs.reverse)))
theorem pe_revA {X : Cx} {e : Expr} {te : TE} {k : Nat} {p1 p2 p3 pos : Pos} (he : PE X e te) : PE X (.Subscript e (.Slice none none (some (.UnaryOp .USub (.Constant (.int 1) k p1) p2)) p3) pos) (tRevA X.K te) := by
  refine ⟨fun pins s σ H Q I h => ?_⟩
  refine Subscript_ (thn (he.run pins s σ H _ I h) fun v s1 ⟨x, H1, I1, r1, q1⟩ => ?_)
  have hst : PO X (some (.UnaryOp .USub (.Constant (.int 1) k p1) p2)) (tPart (tUn (rU fun i => .int (-i)) (tC (.int 1)))) := po_some (pe_un un_neg pe_int)
  refine wpAny_Slice (thn (po_none.run pins s1 σ H1 (fun o H2 => o = none ∧ H2 = H1) I1 ⟨rfl, rfl⟩) fun vl s2 ⟨l, H2, I2, pl, el, e2⟩ => ?_)
  subst el e2
  refine thn (po_none.run pins s2 σ H2 (fun o H3 => o = none ∧ H3 = H2) I2 ⟨rfl, rfl⟩) fun vu s3 ⟨u, H3, I3, pu, eu, e3⟩ => ?_
  subst eu e3
  refine thn (hst.run pins s3 σ H3 (fun o H4 => o = some (-1) ∧ H4 = H3) I3 ⟨1, rfl, -1, rfl, rfl, rfl⟩) fun vs s4 ⟨o, H4, I4, ps, eo, e4⟩ => ?_
  subst eo e4
  have I5 : Inv X pins σ H4 { s4 with heap := s4.heap.push { cls := .type "slice", data := .fields #[vl, vu, vs] } } := I4.kept (t' := s4.toks) fun b ob q => Heap.get?_push_of_some _ q
  rcases q1 with ⟨a, xs, ex, hx, q⟩ | ⟨a, xs, ex, hx, q⟩
  · subst ex
    cases r1
    obtain ⟨its, r, ht, hz⟩ := I5.list hx
    have hlen := r.length
    show wpAny (model X.prog X.w) X.A (subscriptTail e (.Slice none none (some (.UnaryOp .USub (.Constant (.int 1) k p1) p2)) p3) (.ref a) (.ref s4.heap.objs.size)) (EP X pins σ Q) X.xe { s4 with heap := s4.heap.push { cls := .type "slice", data := .fields #[vl, vu, vs] } }
    refine tail_any (ops := [.ref a, .ref s4.heap.objs.size]) ht.isList.typeIs (PySem.slot_list_getitem.lookup) ?_ (by with_unfolding_all rfl)
    refine wpAny_getItem_list_slice ht.isList (Heap.IsSliceOf.new _ vl vu vs) pl pu ps (by decide) ?_ (by rw [List.size_toArray]; omega)
    rw [PySem.W.krv_pick]
    refine ⟨.ref _, _, I5.laid (t' := s4.toks) (o := .lst xs.reverse) (fun b ob q => Heap.get?_push_of_some _ q) (Nat.le_refl _) ?_, rfl, q _ (I5.hok.fresh (Nat.le_refl _))⟩
    exact ⟨by rw [List.length_reverse]; exact hz, _, 0, r.reverse, Heap.get?_push_size _ rfl⟩
  · subst ex
    cases r1
    cases pl
    cases pu
    obtain ⟨its, r, ht, hz⟩ := I5.tuple hx
    have hlen := r.length
    show wpAny (model X.prog X.w) X.A (subscriptTail e (.Slice none none (some (.UnaryOp .USub (.Constant (.int 1) k p1) p2)) p3) (.ref a) (.ref s4.heap.objs.size)) (EP X pins σ Q) X.xe { s4 with heap := s4.heap.push { cls := .type "slice", data := .fields #[.none, .none, vs] } }
    refine tail_any (ops := [.ref a, .ref s4.heap.objs.size]) ht.typeIs (PyProof.Rows.slot_tuple_getitem.lookup) ?_ (by with_unfolding_all rfl)
    refine getItem_tuple_rev ht (Heap.IsSliceOf.new _ .none .none vs) ps ?_ (by rw [List.size_toArray]; omega)
    refine ⟨.ref _, _, I5.laid (t' := s4.toks) (o := .tup xs.reverse) (fun b ob q => Heap.get?_push_of_some _ q) (Nat.le_refl _) ?_, rfl, q _ (I5.hok.fresh (Nat.le_refl _))⟩
    exact ⟨by rw [List.length_reverse]; exact hz, _, r.reverse, IsTup.new _ _⟩
section
variable {K : PySem.W.Frag} {mg : Str → Option Value} {m : MH} {F : Addr → Prop} {H : Hp}
theorem Reps.rev : ∀ {ds : List D} {vs : List V}, Reps K mg F H ds vs → Reps K mg F H ds.reverse vs.reverse
  | [], _, h => by cases h; rfl
  | d :: ds, vs, h => by
    obtain ⟨v, r, rfl, h2, h3⟩ := h
    rw [List.reverse_cons, List.reverse_cons]
    exact Reps.app (Reps.rev h3) (Reps.one h2)
end
theorem ge_rev {X : Cx} {W : WX} {e : Expr} {wa : WE0} {k : Nat} {p1 p2 p3 pos : Pos} (he : PE X e (RdE X W wa)) : PE X (.Subscript e (.Slice none none (some (.UnaryOp .USub (.Constant (.int 1) k p1) p2)) p3) pos) (RdE X W fun ρ m Q E => wa ρ m (fun x m1 => getw (revD m1 x) fun z => Q z m1) E) :=
  PE.imp (pe_revA he) fun σ H Q ⟨ρ, m, F, Q0, E0, A, h, g, gx⟩ => rd1 A h gx fun x m1 F1 v H1 q1 n1 r1 => by
    obtain ⟨z, e, q2⟩ := getw_iff.mp q1
    have lst : ∀ {a xs vs}, SqL X.K H1 a vs → Reps X.K X.mg F1 H1 xs vs → xs.length ≤ sizeLine → Q0 (.lst xs.reverse) m1 → ∀ p, H1 p = none → Q (.ref p) (upd H1 p (.lst vs.reverse)) := fun {a xs vs} hs hr hl q p hp => by
      obtain ⟨n2, r2⟩ := Nx.newLst n1.rel hp hr.rev (by rw [List.length_reverse]; exact hl)
      exact g _ _ _ _ _ q (n1.trans n2) r2
    cases x with
    | tup xs =>
      cases e
      obtain ⟨a, vs, rfl, ht, hr, hl⟩ := r1
      refine .inr ⟨a, vs, rfl, ht.sq, fun p hp => ?_⟩
      obtain ⟨n2, r2⟩ := Nx.newTup n1.rel hp hr.rev (by rw [List.length_reverse]; exact hl)
      exact g _ _ _ _ _ q2 (n1.trans n2) r2
    | lst xs =>
      cases e
      obtain ⟨a, vs, rfl, _, ht, hr, hl⟩ := r1
      have sq : SqL X.K H1 a vs := .inl (.inl ht)
      exact .inl ⟨a, vs, rfl, sq, lst sq hr hl q2⟩
    | ref a =>
      cases r1
      unfold revD at e
      cases q : m1 a with
      | none => simp [q] at e
      | some o =>
        cases o with
        | lst xs =>
          simp only [q] at e
          cases e
          obtain ⟨vs, ht, hr, hl⟩ := (n1.rel a _ q).2
          have sq : SqL X.K H1 a vs := .inl (.inl ht)
          exact .inl ⟨a, vs, rfl, sq, lst sq hr hl q2⟩
        | dic _ => simp [q] at e
        | ins _ _ => simp [q] at e
    | _ => cases e
/-- what a class's call promises, by what its __init__ does -/
def newP (cn : String) (pi : Prom) : Prom := fun ds m Q E => ∀ p, m p = none → pi (.ref p :: ds) (m.set p (.ins cn [])) (fun d m' => d = .non ∧ Q (.ref p) m') E
section
variable {X : Cx} {W : WX} {j : Nat} {cn : String} {n : Nat} {ks : List Str} {arr : List D → List D → List D} {pi : Prom}
theorem run_new {pins : List (Addr × Obj)} {σ : L2.St} {H : Hp} {s : Shared} {Q : VK} {us ws : List Value} {vs zs : List V} {C f : Addr} {fd : FuncData} {ps : List Str} {g : List Value → List Value → List Value} {gV : List V → List V → List V}
    (M : Mk X.K C f) (k : ClsAt X.K X.mg cn C) (F : FnOk X.prog X.w X.K X.mg X.base (L2N.CX X.prog X.w) j f fd ps (spOf X.K X.mg ps.length pi)) (hb : KBn X.K fd ps (n + 1) ks g gV) (hl : ∀ vs zs, vs.length = n + 1 → zs.length = ks.length → (gV vs zs).length = ps.length)
    (ha : ∀ F H d v ds vs ys zs, Rep X.K X.mg F H d v → Reps X.K X.mg F H ds vs → Reps X.K X.mg F H ys zs → ds.length = n → ys.length = ks.length → Reps X.K X.mg F H (d :: arr ds ys) (gV (v :: vs) zs)) (hr : Room (j + 1) X.A) (tk : L2N.Takes X W)
    (I : Inv X pins σ H s) (r : Vals vs us) (rz : Vals zs ws) (h : ∃ ds ys m F Q0 E0, Reps X.K X.mg F H ds vs ∧ Reps X.K X.mg F H ys zs ∧ ds.length = n ∧ ys.length = ks.length ∧ RelH X.K X.mg m F H ∧ newP cn pi (arr ds ys) m Q0 E0 ∧ GoQ X.K X.mg m F H Q0 Q ∧ GoX X W σ m F H E0) :
    wpAny (model X.prog X.w) X.A (call (.ref C) us (ks.zip ws)) (EP X pins σ Q) X.xe s := by
  obtain ⟨ds, ys, m, F0, Q0, E0, rd, ry, l1, l2, R, p, gq, gx⟩ := h
  have lv : vs.length = n := by rw [← rd.len]; exact l1
  have lz : zs.length = ks.length := by rw [← ry.len]; exact l2
  have hx0 : H (s.heap.objs.size + 1) = none := I.hok.fresh (Nat.le_succ _)
  have hd0 : H s.heap.objs.size = none := I.hok.fresh (Nat.le_refl _)
  have I2 := Inv.made (C := C) I
  have n1 : Nx X.K X.mg m F0 H m (delF F0 s.heap.objs.size) (upd H s.heap.objs.size (.own (s.heap.objs.size + 1))) := .hide R hd0
  have hx1 : (upd H s.heap.objs.size (.own (s.heap.objs.size + 1))) (s.heap.objs.size + 1) = none := by rw [upd_ne (Nat.succ_ne_self _)]; exact hx0
  have n2 : Nx X.K X.mg m F0 H (m.set (s.heap.objs.size + 1) (.ins cn [])) _ (upd (upd H s.heap.objs.size (.own (s.heap.objs.size + 1))) (s.heap.objs.size + 1) (.ins C s.heap.objs.size [])) :=
    n1.trans (Nx.newM n1.rel hx1 fun _ => ⟨C, s.heap.objs.size, [], k, upd_same, rfl⟩)
  have q := p _ (R.free hx0)
  have r1 : Vals (V.ref (s.heap.objs.size + 1) :: vs) (Value.ref (s.heap.objs.size + 1) :: us) := .cons rfl r
  have e1 : (Value.ref (s.heap.objs.size + 1) :: us).length = n + 1 := r1.length.symm.trans (congrArg Nat.succ lv)
  have sp : spOf X.K X.mg ps.length pi (gV (V.ref (s.heap.objs.size + 1) :: vs) zs) _ (fun v H2 => v = .non ∧ Q (.ref (s.heap.objs.size + 1)) H2) (WE W σ) :=
    ⟨hl _ _ (congrArg Nat.succ lv) lz, _, _, _, _, _, ha _ _ (.ref (s.heap.objs.size + 1)) _ ds vs ys zs rfl (Reps.ext n2.ext _ _ rd) (Reps.ext n2.ext _ _ ry) l1 l2, n2.rel, q, fun d m' F' v H' ⟨ed, q'⟩ n' r' => by
      subst ed
      exact ⟨r', gq _ _ _ _ _ q' (n2.trans n') rfl⟩, gx.nx n2⟩
  refine wpAny_call (make_map (f := f) I.kIn M.makes M.init (beq_iff_eq.mp M.fn) (codeAny_mono (F.run _ X.stack _ _ ⟨Value.ref (s.heap.objs.size + 1) :: us, ks.zip ws⟩ (g (Value.ref (s.heap.objs.size + 1) :: us) ws) _ _ (WE W σ) (hr.make C us (ks.zip ws))
    (I2.env0.make C us (ks.zip ws)) (hb.to _ _ ws I2.kIn e1 (rz.length.symm.trans lz)) (hb.rel r1 rz) sp) fun r s' hq => ?_))
  cases r with
  | error e => exact L2N.passAt tk σ pins _ _ e s' I2 hq
  | ok fl =>
    cases fl with
    | ret u =>
      obtain ⟨v, H', I3, rv, ev, q3⟩ := I2.after hq
      subst ev
      exact ⟨rv, ⟨V.ref (s.heap.objs.size + 1), H', I3, rfl, q3⟩⟩
    | next => exact hq.elim
    | brk => exact hq.elim
    | cont => exact hq.elim
end
/-- a class that may be called -/
theorem FnF.new {P : Program} {w : World} {K : PySem.W.Frag} {mg : Str → Option Value} {base : Heap} {j : Nat} {cn : String} {n : Nat} {ks : List Str} {arr : List D → List D → List D} {pi : Prom} {C f : Addr} {fd : FuncData} {ps : List Str} {g : List Value → List Value → List Value} {gV : List V → List V → List V}
    (M : Mk K C f) (k : ClsAt K mg cn C) (F : FnOk P w K mg base (L2N.CX P w) j f fd ps (spOf K mg ps.length pi)) (hb : KBn K fd ps (n + 1) ks g gV) (hl : ∀ vs zs, vs.length = n + 1 → zs.length = ks.length → (gV vs zs).length = ps.length)
    (ha : ∀ F H d v ds vs ys zs, Rep K mg F H d v → Reps K mg F H ds vs → Reps K mg F H ys zs → ds.length = n → ys.length = ks.length → Reps K mg F H (d :: arr ds ys) (gV (v :: vs) zs)) : FnF P w K mg base (j + 1) cn n ks arr (newP cn pi) := by
  refine ⟨C, k.1, M.kp, fun X W pins σ H s Q us ws vs zs e1 e2 e3 e4 e5 hr tk I r rz h => ?_⟩
  subst e1 e2 e3 e4 e5
  exact run_new M k F hb hl ha hr tk I r rz h
/-- a method that may be called: of the class t, named f -/
structure FnM (P : Program) (w : World) (K : PySem.W.Frag) (mg : Str → Option Value) (base : Heap) (j : Nat) (t f : String) (n : Nat) (arr : List D → List D → List D) (prom : Prom) : Prop where
  ex : ∃ C a : Addr, ClsAt K mg t C ∧ Meth K C (Str.ofString f) a ∧ RunF P w K mg base j a (n + 1) [] arr prom
section
variable {X : Cx} {W : WX} {o e : Expr} {es : List Expr} {f : String} {ap p : Pos} {wo : WE0} {ws : WA0} {n : Nat} {j : Nat} {t : String} {arr : List D → List D → List D} {prom : Prom}
/-- o.f(..) of an instance -/
theorem ge_mth (fm : FnM X.prog X.w X.K X.mg X.base j t f n arr prom) (hr : Room j X.A) (tk : L2N.Takes X W) (ho : PE X o (RdE X W wo)) (ha : PA X (e :: es) (RdA X W n ws)) {pl : Sem Bool}
    (hst : starEach (e :: es) X.env = (false, eval e X.env) :: starEach es X.env) (hpl : (backTo p (starEach es X.env)).any (·.1) = false)
    (ht : eval (.Call (.Attribute o (Str.ofString f) ap) (e :: es) [] p) X.env = (do
      let ov ← eval o X.env
      standAt ap.atName
      let (f, first) ← holding [ov] (getMethod ov (Str.ofString f) pl)
      callWith p f first (backTo p (starEach (e :: es) X.env)) (backToKw p (keywordEach [] X.env)))) :
    PE X (.Call (.Attribute o (Str.ofString f) ap) (e :: es) [] p) (RdE X W fun ρ m Q E => wo ρ m (fun x m1 => (tyD m1 x = some t ∧ fldD m1 x f = none) ∧ ws ρ m1 (fun ds m2 => prom (arr (x :: ds) []) m2 Q E) E) E) := by
  refine ⟨fun pins s σ H Q I ⟨ρ, m, F, Q0, E0, A, h, gq, gx⟩ => ?_⟩
  refine PySem.W.methodCall_KW (pl := pl) (thn (ho.run pins s σ H (fun v H1 => ∃ x m1 F1, Nx X.K X.mg m F H m1 F1 H1 ∧ Rep X.K X.mg F1 H1 x v ∧ (tyD m1 x = some t ∧ fldD m1 x f = none) ∧ ws ρ m1 (fun ds m2 => prom (arr (x :: ds) []) m2 Q0 E0) E0) I (rd1 A h gx fun d m1 F1 v H1 q1 n1 r1 => ⟨d, m1, F1, n1, r1, q1⟩)) fun u s1 ⟨v, H1, I1, ru, x, m1, F1, n1, r1, q1⟩ => ?_) ht
  obtain ⟨⟨e1, e3⟩, q2⟩ := q1
  obtain ⟨C, a, k, hm, run⟩ := fm.ex
  obtain ⟨b, C', dx, us0, rfl, z, k', _, h2⟩ := ins_of n1.rel r1 e1 k.2.2
  obtain rfl : u = Value.ref b := ru
  have : C' = C := by
    have h1 := k.1.symm.trans k'.1
    injection h1 with h1
    injection h1 with h1
    exact h1.symm
  subst this
  refine getmeth_ok I1 z k.2.1.cls hm (h2 f e3) ?_
  have args : RdA X W n ws σ H1 (fun vs H2 => ∃ ds m2 F2, Reps X.K X.mg F2 H2 ds vs ∧ ds.length = n ∧ Nx X.K X.mg m1 F1 H1 m2 F2 H2 ∧ prom (arr (x :: ds) []) m2 Q0 E0) :=
    ⟨ρ, m1, F1, _, E0, A.nx n1, q2, fun ds m2 F2 vs H2 l2 q3 n2 r2 => ⟨ds, m2, F2, r2, l2, n2, q3⟩, gx.nx n1⟩
  refine PySem.W.callWith_K (first := [.ref b]) (h₀ := X.base) I.ok.mod.kin hm.kp (thn (ha.run p pins s1 σ H1 _ I1 args) fun us s2 ⟨vs, H2, I2, r, ds, m2, F2, rr, l1, n2, q3⟩ => ⟨I2.kIn, ?_⟩) hst hpl
  exact run X W _ _ _ _ _ (.ref b :: us) [] (.ref b :: vs) [] rfl rfl rfl rfl rfl hr tk I2 (.cons rfl r) .nil ⟨x :: ds, [], m2, F2, Q0, E0, Reps.cons (Rep.ext n2.ext _ _ r1) rr, rfl, congrArg Nat.succ l1, rfl, n2.rel, q3, gq.nx (n1.trans n2), gx.nx (n1.trans n2)⟩
/-- o.f() -/
theorem ge_mth0 (fm : FnM X.prog X.w X.K X.mg X.base j t f 0 arr prom) (hr : Room j X.A) (tk : L2N.Takes X W) (ho : PE X o (RdE X W wo)) {pl : Sem Bool}
    (ht : eval (.Call (.Attribute o (Str.ofString f) ap) [] [] p) X.env = (do
      let ov ← eval o X.env
      standAt ap.atName
      let (f, first) ← holding [ov] (getMethod ov (Str.ofString f) pl)
      callWith p f first (backTo p (starEach [] X.env)) (backToKw p (keywordEach [] X.env)))) :
    PE X (.Call (.Attribute o (Str.ofString f) ap) [] [] p) (RdE X W fun ρ m Q E => wo ρ m (fun x m1 => (tyD m1 x = some t ∧ fldD m1 x f = none) ∧ prom (arr [x] []) m1 Q E) E) := by
  refine ⟨fun pins s σ H Q I ⟨ρ, m, F, Q0, E0, A, h, gq, gx⟩ => ?_⟩
  refine PySem.W.methodCall_KW (pl := pl) (thn (ho.run pins s σ H (fun v H1 => ∃ x m1 F1, Nx X.K X.mg m F H m1 F1 H1 ∧ Rep X.K X.mg F1 H1 x v ∧ (tyD m1 x = some t ∧ fldD m1 x f = none) ∧ prom (arr [x] []) m1 Q0 E0) I (rd1 A h gx fun d m1 F1 v H1 q1 n1 r1 => ⟨d, m1, F1, n1, r1, q1⟩)) fun u s1 ⟨v, H1, I1, ru, x, m1, F1, n1, r1, q1⟩ => ?_) ht
  obtain ⟨⟨e1, e3⟩, q2⟩ := q1
  obtain ⟨C, a, k, hm, run⟩ := fm.ex
  obtain ⟨b, C', dx, us0, rfl, z, k', _, h2⟩ := ins_of n1.rel r1 e1 k.2.2
  obtain rfl : u = Value.ref b := ru
  have : C' = C := by
    have h1 := k.1.symm.trans k'.1
    injection h1 with h1
    injection h1 with h1
    exact h1.symm
  subst this
  refine getmeth_ok I1 z k.2.1.cls hm (h2 f e3) ?_
  exact PySem.W.callWith_K0 (first := [.ref b]) I1.kIn hm.kp (run X W _ _ _ _ _ [.ref b] [] [.ref b] [] rfl rfl rfl rfl rfl hr tk I1 (.cons rfl .nil) .nil ⟨[x], [], m1, F1, Q0, E0, Reps.one r1, rfl, rfl, rfl, n1.rel, q2, gq.nx n1, gx.nx n1⟩)
end
end PT
end
section
set_option linter.all false
set_option maxRecDepth 100000
set_option maxHeartbeats 4000000
/-! PtY: a, *b = e; texts made of things; calls of what a name holds. -/
namespace PT
open PySem PySem.Spec PyProof.Rows L2

section
variable {prog : Program} {w : World} {A : Around} {E : Value → Shared → Prop} {s : Shared}
/-- a tuple's iterator, from k on -/
theorem walk_from (hh : A.handled = none) (I ax : Addr) (hne : ax ≠ I) (items : Array Value) (k : Nat) (hk : k ≤ items.size) :
    WalksS prog w A I [I, ax] [I] (fun a b => b = a) (items.size - k) (fun i v => items[k + i]? = some v) (fun i s => s.heap.IsTupleIter I ax (k + i) ∧ s.heap.IsTuple ax items) := by
  have W := (Walks.tuple (prog := prog) (w := w) hh I ax hne items).toS
  refine ⟨W.sub, W.grefl, W.gtrans, fun i s h' tk st ht hk => W.frame (k + i) s h' tk st ht hk, fun i s Q E hi st hQ => ?_, fun s Q E st hQ => ?_, fun i s Q E st hQ => W.self (k + i) s Q E st hQ⟩
  · exact W.item (k + i) s Q E (by omega) st fun v s' h1 h2 h3 => hQ v s' h1 h2 h3
  · have e : k + (items.size - k) = items.size := by omega
    rw [e] at st
    exact W.done s Q E st hQ
theorem items_from {items acc : Array Value} {k : Nat} (hk : k ≤ items.size) (h : ItemsOf (fun i v => items[k + i]? = some v) acc (items.size - k)) : acc.toList = items.toList.drop k := by
  obtain ⟨h1, h2⟩ := h
  apply List.ext_getElem?
  intro i
  rw [List.getElem?_drop, Array.getElem?_toList, Array.getElem?_toList]
  by_cases hi : i < acc.size
  · have e : acc[i]? = some acc[i] := by simp [hi]
    rw [e, h2 i _ e]
  · rw [Array.getElem?_eq_none (by omega), Array.getElem?_eq_none (by omega)]
theorem unpack_star {t : Addr} {items : Array Value} {n : Nat} {Q : List Value → Shared → Prop} (hh : A.handled = none) (ht : IsTup s.heap t items) (hn : n ≤ items.size) (hz : items.size ≤ sizeLine)
    (hQ : ∀ h' tk l, s.toks ≤ tk → (∀ b o, s.heap.get? b = some o → h'.get? b = some o) → h'.get? l = some { cls := .type "list", data := .seq (items.toList.drop n).toArray } → s.heap.get? l = none → Q (items.toList.take n ++ [.ref l]) { s with heap := h', toks := tk }) :
    wpAny (model prog w) A (unpackItems (.ref t) (n + 1) (some n)) Q E s := by
  have hlt : t ≠ s.heap.objs.size := by obtain ⟨o, ho, _⟩ := id ht; exact Nat.ne_of_lt (Heap.lt_size ho)
  unfold unpackItems
  refine wpAny_bind ?_
  unfold notIterableAtAll
  refine wpAny_bind (wpAny_specialOf ht.typeIs slot_tuple_iter.lookup ?_)
  refine wpAny_pure ?_
  simp only [Bool.false_eq_true, if_false]
  refine wpAny_bind (wpAny_holding (iter_tuple ht ?_))
  refine wpAny_bind (wpAny_holding (draw_tuple hlt n 0 _ _ ⟨_, Heap.get?_push_size _ rfl, rfl, rfl⟩ (ht.push _) (by omega) fun h₁ hit₁ hs₁ => ?_))
  have hl : (List.take n (List.drop 0 items.toList)).length = n := by simp; omega
  rw [if_neg (by omega)]
  have ht₁ : IsTup h₁ t items := (ht.push _).extBut hs₁.extBut hlt
  have hfp : ∀ b ∈ [s.heap.objs.size, t], b < h₁.objs.size := by
    intro b hb
    simp at hb
    rcases hb with rfl | rfl
    · obtain ⟨o, ho, _⟩ := hit₁; exact Heap.lt_size ho
    · obtain ⟨o, ho, _⟩ := ht₁; exact Heap.lt_size ho
  have hit₁ : IsTupIter h₁ s.heap.objs.size t n := by rw [show n = 0 + n by omega]; exact hit₁
  refine wpAny_bind (wpAny_holding (wpAny_collect_iter (T := "tuple_iterator") (.inr (.inr (.inr rfl))) (walk_from (A := A.in1) (by exact hh) s.heap.objs.size t hlt items n hn) (fun i s st => by obtain ⟨o, ho, hc, _⟩ := st.1; exact ⟨o, ho, hc⟩) ⟨hit₁, ht₁⟩ hfp (by simp) (fun s2 acc mv it => ?_) (by omega)))
  have ea := items_from hn it
  have la : acc.toList.length = items.size - n := by rw [ea, List.length_drop, Array.length_toList]
  rw [if_neg (by omega)]
  have e1 : n + 1 - 1 - n = 0 := by omega
  rw [e1, Nat.sub_zero, List.take_length, List.drop_length, ea]
  refine wpAny_bind (wpAny_newObj_type ?_ (by show (items.toList.drop n).toArray.size ≤ sizeLine; rw [List.size_toArray, List.length_drop, Array.length_toList]; omega))
  refine wpAny_pure ?_
  obtain ⟨mh, mg, md, mo, mt⟩ := mv
  have keep : ∀ b o, s.heap.get? b = some o → s2.heap.get? b = some o := fun b o e => by
    have nb : b ≠ s.heap.objs.size := Nat.ne_of_lt (Heap.lt_size e)
    exact mh b o (by simp [nb]) (hs₁.extBut b o nb (Heap.get?_push_of_some _ e))
  have hle : s.heap.get? s2.heap.objs.size = none := by
    cases e : s.heap.get? s2.heap.objs.size with
    | none => rfl
    | some o => exact absurd (Heap.lt_size (keep _ o e)) (Nat.lt_irrefl _)
  have hs2 : ({ s2 with heap := s2.heap.push { cls := .type "list", data := .seq (items.toList.drop n).toArray } } : Shared) = { s with heap := s2.heap.push { cls := .type "list", data := .seq (items.toList.drop n).toArray }, toks := s2.toks } := by
    cases s2
    simp at mg md mo ⊢
    exact ⟨mg, md, mo⟩
  rw [hs2, List.drop_zero, List.append_nil]
  exact hQ _ _ _ mt (fun b o e => Heap.get?_push_of_some _ (keep b o e)) (Heap.get?_push_size _ rfl) hle
end
section
variable {X : Cx}
/-- the reading of a target a, .., *b: n names ahead *)-/
def gStar (K : PySem.W.Frag) (n : Nat) (t : TGs) : TG := fun v σ H Q => ∃ a xs, v = .ref a ∧ SqT K H a xs ∧ n ≤ xs.length ∧ ∀ p, H p = none → t (xs.take n ++ [.ref p]) σ (upd H p (.lst (xs.drop n))) Q
theorem pg_star {es es' : List Expr} {k n : Nat} {pos : Pos} {t : TGs} (hc : X.calm = true) (h : PGs X es' t) (he : (assignEach es X.env).map (·.2) = (assignEach es' X.env).map (·.2)) (hl : (assignEach es X.env).length = n + 1) (hst : (assignEach es X.env).findIdx? (·.1) = some n) :
    PG X (.Tuple es k pos) (gStar X.K n t) := by
  refine ⟨fun pins s σ H v u Q I r hw => ?_⟩
  obtain ⟨a, xs, e1, hq, hn, hw⟩ := hw
  subst e1
  cases r
  obtain ⟨its, rv, ht, hz⟩ := I.tuple hq
  have hlen := rv.length
  rw [assign_Tuple]
  refine wpAny_bind (wpAny_standAt ?_)
  unfold unpack
  rw [hl, hst]
  refine wpAny_bind (wpAny_holding (unpack_star (I.ok.hd hc) ht (by rw [List.size_toArray]; omega) (by rw [List.size_toArray]; omega) fun h' tk l htk hk hL hf => ?_))
  have np : H l = none := I.hok.gone hf
  have hd : Vals (xs.drop n) (its.drop n) := rv.drop n
  have I1 : Inv X pins σ (upd H l (.lst (xs.drop n))) { s with heap := h', toks := tk } := I.un (Un.laidN hk hf np) (I.hok.laidN hk np (o := .lst (xs.drop n)) ⟨by rw [List.length_drop]; omega, its.drop n, 0, hd, hL⟩)
  rw [he]
  exact h.run pins _ σ _ _ _ Q I1 ((rv.take n).append (.cons (show RelV (.ref l) (.ref l) from rfl) .nil)) (hw l np)
end
section
variable {X : Cx} {W : WX} {e : Expr} {wa : WE0}
theorem star_rep {K : PySem.W.Frag} {mg : Str → Option Value} {F : Addr → Prop} {H : Hp} {n : Nat} {d : D} {z : List D} {v : V} (r : Rep K mg F H d v) (e : starD n d = some z) :
    ∃ a xs vs, d = .tup xs ∧ v = .ref a ∧ TupAt K F H a vs ∧ Reps K mg F H xs vs ∧ xs.length ≤ sizeLine ∧ n ≤ xs.length ∧ z = xs.take n ++ [.lst (xs.drop n)] := by
  cases d with
  | tup xs =>
    have e : (if n ≤ xs.length then some (xs.take n ++ [D.lst (xs.drop n)]) else none) = some z := e
    split at e
    · rename_i h
      cases e
      obtain ⟨a, vs, rfl, t, rr, hl⟩ := r
      exact ⟨a, xs, vs, rfl, rfl, t, rr, hl, h, rfl⟩
    · cases e
  | _ => cases e
/-- a, .., *b = e -/
theorem gs_star {is : List Nat} {j : Nat} {es es' : List Expr} {k : Nat} {p pos : Pos} (hc : X.calm = true) (he : PE X e (RdE X W wa)) (h : PGs X es' (RdGs X ((is ++ [j]).map .nm))) (hm : (assignEach es X.env).map (·.2) = (assignEach es' X.env).map (·.2))
    (hl : (assignEach es X.env).length = is.length + 1) (hst : (assignEach es X.env).findIdx? (·.1) = some is.length) (hs : swapsWithSole [.Tuple es k p] e pos.line X.env = pure false) (hw : swappedStores [.Tuple es k p] e X.env = pure none) :
    PS X (.Assign [.Tuple es k p] e pos) (RdS X W fun ρ m K => wa ρ m (fun d m1 => getw (starD is.length d) fun z => getw (tgDs ((is ++ [j]).map .nm) z ρ) fun ρ' => K.nx ρ' m1) (K.xc ρ)) :=
  PS.imp (ps_asg he (pg_star hc h hm hl hst) hs hw rfl) fun D σ H ⟨ρ, m, F, K, A, h, g⟩ => rd1 A h (g.gx A) fun d m1 F1 v H1 q n r => by
    obtain ⟨z, e1, q1⟩ := getw_iff.mp q
    obtain ⟨ρ', e2, q2⟩ := getw_iff.mp q1
    obtain ⟨a, xs, vs, rfl, rfl, t, rr, hl, hn, rfl⟩ := star_rep r e1
    refine ⟨a, vs, rfl, t.sq, by rw [← rr.len]; exact hn, fun p hp => ?_⟩
    obtain ⟨n2, r2⟩ := Nx.newLst n.rel hp (rr.drop is.length) (by rw [List.length_drop]; omega)
    refine ⟨_, ρ, m1, _, fun ρ2 => ρ2 = ρ', ((Reps.ext n2.ext _ _ rr).take is.length).app (Reps.one r2), (A.nx n).nx n2, by rw [e2]; exact rfl, fun ρ2 σ2 e3 A3 _ => ?_⟩
    subst e3
    exact g.nx _ _ _ _ _ q2 A3 (n.trans n2)
end
end PT
end
section
set_option linter.all false
set_option maxRecDepth 100000
set_option maxHeartbeats 4000000
/-! PtZ: zip of lists and tuples in any mixture. -/
namespace PT
open PySem PySem.Spec PyProof.Rows L2

/-- the iterator of a tuple (t) or a list -/
def iterAt (t : Bool) (h : Heap) (it a : Addr) (i : Nat) : Prop := match t with
  | true => h.IsTupleIter it a i
  | false => h.IsListIter it a i
def seqAt (t : Bool) (h : Heap) (a : Addr) (items : Array Value) : Prop := match t with
  | true => h.IsTuple a items
  | false => h.IsList a items
def Sqq (K : PySem.W.Frag) (t : Bool) (H : Hp) (a : Addr) (xs : List V) : Prop := match t with
  | true => SqT K H a xs
  | false => SqL K H a xs
theorem iterAt.at_ {t : Bool} {h h' : Heap} {it a : Addr} {i : Nat} (x : iterAt t h it a i) (e : ∀ o, h.get? it = some o → h'.get? it = some o) : iterAt t h' it a i := by
  cases t with
  | true => exact Heap.IsTupleIter.at x e
  | false => exact Heap.IsListIter.at x e
theorem iterAt.obj {t : Bool} {h : Heap} {it a : Addr} {i : Nat} (x : iterAt t h it a i) : ∃ o, h.get? it = some o ∧ ∀ v, o.data ≠ .cell v := by
  cases t with
  | true => obtain ⟨o, e, _, d⟩ := x; exact ⟨o, e, fun v q => by rw [d] at q; cases q⟩
  | false => obtain ⟨o, e, _, d⟩ := x; exact ⟨o, e, fun v q => by rw [d] at q; cases q⟩
theorem draws_seq {prog : Program} {w : World} {A : Around} (hh : A.handled = none) (t : Bool) (it a : Addr) (hne : a ≠ it) (items : Array Value) :
    Draws prog w A it [it, a] items.size (fun i v => items[i]? = some v) (fun i h => iterAt t h it a i ∧ seqAt t h a items) := by
  cases t with
  | true => exact Draws.tuple hh it a hne items
  | false => exact Draws.list hh it a hne items
theorem begins_seq (t : Bool) (a : Addr) (items : Array Value) : Begins (.ref a) { cls := .type (if t then "tuple_iterator" else "list_iterator"), data := .fields #[.ref a, .int 0 0] } fun h => seqAt t h a items := by
  cases t with
  | true => exact begins_tuple a items
  | false => exact begins_list a items
section
variable {X : Cx} {pins : List (Addr × Obj)} {σ : L2.St} {H : Hp} {s : Shared}
theorem sqq_at {t : Bool} {a : Addr} {xs : List V} (I : Inv X pins σ H s) (h : Sqq X.K t H a xs) : ∃ its : List Value, Vals xs its ∧ seqAt t s.heap a its.toArray ∧ its.length ≤ sizeLine ∧ a < s.heap.objs.size := by
  cases t with
  | true =>
    obtain ⟨its, r, p, z⟩ := I.tuple h
    have hl := r.length
    exact ⟨its, r, p, by omega, by obtain ⟨o, ho, _⟩ := id p; exact Heap.lt_size ho⟩
  | false =>
    obtain ⟨its, r, p, z⟩ := I.list h
    have hl := r.length
    exact ⟨its, r, p.isList, by omega, p.lt⟩
theorem sqq_inj {t : Bool} {a : Addr} {xs ys : List V} (I : Inv X pins σ H s) (h : Sqq X.K t H a xs) (g : Sqq X.K t H a ys) : xs = ys := by
  cases t with
  | true => exact I.tuple_inj h g
  | false => exact I.list_inj h g
end
def ItzQ (K : PySem.W.Frag) (t u : Bool) (a b : Addr) : It :=
  ⟨fun i H => ∃ (xs ys : List V) (x y : V), Sqq K t H a xs ∧ Sqq K u H b ys ∧ xs[i]? = some x ∧ ys[i]? = some y,
    fun i H v H' => ∃ T x y, v = .ref T ∧ H T = none ∧ H' = upd H T (.tup [x, y]) ∧ (∀ xs, Sqq K t H a xs → xs[i]? = some x) ∧ ∀ ys, Sqq K u H b ys → ys[i]? = some y,
    fun i H => ∃ xs ys : List V, Sqq K t H a xs ∧ Sqq K u H b ys ∧ i ≤ xs.length ∧ i ≤ ys.length ∧ (i = xs.length ∨ i = ys.length)⟩
structure Zap (z TI TO i1 i2 a b : Addr) : Prop where
  s : ZipSep2 z TI TO i1 i2 [i1, a] [i2, b]
  ai : a ≠ i1
  bi : b ≠ i2
theorem zap_of {n a b : Nat} (ha : a < n) (hb : b < n) : Zap (n + 4) (n + 2) (n + 3) n (n + 1) a b := by
  have n0 : n + 2 ≠ n + 4 := by omega
  have n1 : n + 3 ≠ n + 4 := by omega
  have n2 : n + 2 ≠ n + 3 := by omega
  have n3 : n + 2 ≠ n := by omega
  have n4 : n + 2 ≠ n + 1 := by omega
  have m1 : ¬ (n + 4 = n ∨ n + 4 = a) := by omega
  have m2 : ¬ (n + 3 = n ∨ n + 3 = a) := by omega
  have m3 : ¬ (n + 4 = n + 1 ∨ n + 4 = b) := by omega
  have m4 : ¬ (n + 3 = n + 1 ∨ n + 3 = b) := by omega
  have m5 : ¬ (n = n + 1 ∨ n = b) := by omega
  have m6 : ¬ (n + 1 = n ∨ n + 1 = a) := by omega
  have mem : ∀ {x y z : Nat}, ¬ (x = y ∨ x = z) → x ∉ [y, z] := fun h q => h (by simpa using q)
  exact ⟨⟨n0, n1, n2, n3, List.mem_cons_self, mem m1, mem m2, n4, List.mem_cons_self, mem m3, mem m4, mem m5, mem m6⟩, Nat.ne_of_lt ha, Nat.ne_of_lt (Nat.lt_succ_of_lt hb)⟩
theorem turn_zipQ {P : Program} {w : World} {K : PySem.W.Frag} {t u : Bool} {elts : List Expr} {kk : Nat} {tpos : Pos} {a b z TI TO i1 i2 : Addr} (D : Zap z TI TO i1 i2 a b) :
    Turn P w K (.Tuple elts kk tpos) (ItzQ K t u a b) [z, TI, TO, i1, i2] z (fun i h => IsZip h z TI TO .none ∧ IsTupOf2 h TI (.ref i1) (.ref i2) ∧ (∃ x y, IsTupOf2 h TO x y) ∧ iterAt t h i1 a i ∧ iterAt u h i2 b i) where
  mem := by simp
  obj := fun i h st c hc => by
    obtain ⟨hz, hTI, ⟨x, y, hTO⟩, h1, h2⟩ := st
    have e' : c = z ∨ c = TI ∨ c = TO ∨ c = i1 ∨ c = i2 := by simpa using hc
    rcases e' with rfl | rfl | rfl | rfl | rfl
    · exact ⟨_, hz, fun v q => nomatch q⟩
    · exact ⟨_, hTI, fun v q => nomatch q⟩
    · exact ⟨_, hTO, fun v q => nomatch q⟩
    · exact h1.obj
    · exact h2.obj
  keep := fun i h h' st k => by
    obtain ⟨hz, hTI, ⟨x, y, hTO⟩, h1, h2⟩ := st
    exact ⟨k z (by simp) _ hz, k TI (by simp) _ hTI, ⟨x, y, k TO (by simp) _ hTO⟩, h1.at_ fun o q => k i1 (by simp) o q, h2.at_ fun o q => k i2 (by simp) o q⟩
  item := by
    intro X hP hw hK hc i pins s σ H E I hf st hg
    subst hP hw hK
    obtain ⟨hz, hTI, ⟨x0, y0, hTO⟩, h1, h2⟩ := st
    obtain ⟨xs, ys, x, y, hqx, hqy, hx, hy⟩ := hg
    obtain ⟨its, rv, p, _, la⟩ := sqq_at I hqx
    obtain ⟨its2, rv2, p2, _, lb⟩ := sqq_at I hqy
    obtain ⟨u1, hu, ru⟩ := rv.get hx
    obtain ⟨u2, hu2, ru2⟩ := rv2.get hy
    have hzl : z < s.heap.objs.size := Heap.lt_size hz
    have l1 : i < its.toArray.size := by have := (List.getElem?_eq_some_iff.mp hu).1; simpa using this
    have l2 : i < its2.toArray.size := by have := (List.getElem?_eq_some_iff.mp hu2).1; simpa using this
    have D1 := draws_seq (prog := X.prog) (w := X.w) (A := X.A.in1) (I.ok.hd hc) t i1 a D.ai its.toArray
    have D2 := draws_seq (prog := X.prog) (w := X.w) (A := X.A.in1) (I.ok.hd hc) u i2 b D.bi its2.toArray
    refine wpAny_pyNext_zipD2_item D.s D1 D2 hz hTI hTO ⟨h1, p⟩ ⟨h2, p2⟩ l1 l2 fun x1 x2 h' tk q1 q2 z' TO' st1 st2 hT hsz hk => ?_
    have e1 : x1 = u1 := by have z : its[i]? = some x1 := by simpa using q1
                            rw [hu] at z; exact (Option.some.inj z).symm
    have e2 : x2 = u2 := by have z : its2[i]? = some x2 := by simpa using q2
                            rw [hu2] at z; exact (Option.some.inj z).symm
    subst e1 e2
    refine ⟨_, rfl, wpAny_letOwnedTupleGo_zip (s := { s with heap := h', toks := tk }) z' fun h'' z'' sb => ?_⟩
    have hT2 : h''.get? s.heap.objs.size = some { cls := .type "tuple", data := .seq #[x1, x2] } := (sb.2 _ (Nat.ne_of_gt hzl)).trans hT
    have new : ObjOk X.prog X.w (upd H s.heap.objs.size (.tup [x, y])) h'' s.heap.objs.size (.tup [x, y]) :=
      ⟨by show 2 ≤ sizeLine; decide, [x1, x2], .cons ru (.cons ru2 .nil), ⟨_, hT2, rfl, _, rfl⟩⟩
    have kp : ∀ c o, c ∉ [z, TI, TO, i1, i2] → s.heap.get? c = some o → h''.get? c = some o := fun c o hb q => by
      simp only [List.mem_cons, List.not_mem_nil, or_false, not_or] at hb
      exact (sb.2 c hb.1).trans (hk c o hb.1 hb.2.2.1 hb.2.2.2.1 hb.2.2.2.2 q)
    have I1 : Inv X pins σ (upd H s.heap.objs.size (.tup [x, y])) { s with heap := h'', toks := tk } :=
      I.turnedNew (t' := tk) (ch := [z, TI, TO, i1, i2]) kp hf (Nat.le_refl _) new
    refine ⟨.ref s.heap.objs.size, _, I1, rfl, ⟨_, x, y, rfl, I.hok.fresh (Nat.le_refl _), rfl, fun l hl => by rw [sqq_inj I hl hqx]; exact hx, fun l hl => by rw [sqq_inj I hl hqy]; exact hy⟩, ⟨z'', ?_, ⟨x1, x2, ?_⟩, ?_, ?_⟩, fun c hcm => ?_⟩
    · exact (sb.2 _ D.s.TIz).trans (hk _ _ D.s.TIz D.s.TITO D.s.TIi1 D.s.TIi2 hTI)
    · exact (sb.2 _ D.s.TOz).trans TO'
    · exact st1.1.at_ fun o q => (sb.2 _ D.s.zi1.symm).trans q
    · exact st2.1.at_ fun o q => (sb.2 _ D.s.zi2.symm).trans q
    · have hlt : c < s.heap.objs.size := by
        have e' : c = z ∨ c = TI ∨ c = TO ∨ c = i1 ∨ c = i2 := by simpa using hcm
        rcases e' with rfl | rfl | rfl | rfl | rfl
        · exact hzl
        · exact Heap.lt_size hTI
        · exact Heap.lt_size hTO
        · obtain ⟨_, e1, _⟩ := h1.obj; exact Heap.lt_size e1
        · obtain ⟨_, e2, _⟩ := h2.obj; exact Heap.lt_size e2
      rw [upd_ne (Nat.ne_of_lt hlt)]
      exact (hf c hcm).1
  done := by
    intro X hP hw hK hc i pins s σ H E I hf st hg
    subst hP hw hK
    obtain ⟨hz, hTI, ⟨x0, y0, hTO⟩, h1, h2⟩ := st
    obtain ⟨xs, ys, hqx, hqy, le1, le2, hend⟩ := hg
    obtain ⟨its, rv, p, _, la⟩ := sqq_at I hqx
    obtain ⟨its2, rv2, p2, _, lb⟩ := sqq_at I hqy
    have l1 := rv.length
    have l2 := rv2.length
    have D1 := draws_seq (prog := X.prog) (w := X.w) (A := X.A.in1) (I.ok.hd hc) t i1 a D.ai its.toArray
    have D2 := draws_seq (prog := X.prog) (w := X.w) (A := X.A.in1) (I.ok.hd hc) u i2 b D.bi its2.toArray
    refine wpAny_pyNext_zipD2_end D.s D1 D2 hz hTI hTO ⟨h1, p⟩ ⟨h2, p2⟩ (by simp; omega) (by simp; omega) (by simp; omega) fun h' tk hk => ⟨rfl, I.turnedL (t' := tk) (ch := [z, TI, TO, i1, i2]) (fun c o hb q => ?_) hf⟩
    simp only [List.mem_cons, List.not_mem_nil, or_false, not_or] at hb
    exact hk c o hb.1 hb.2.2.1 hb.2.2.2.1 hb.2.2.2.2 q
  self := fun A i s Q E st h => wpAny_pyIter_zip st.1 h
section
variable {K : PySem.W.Frag} {mg : Str → Option Value} {F F' : Addr → Prop} {H H' : Hp}
def FrzAt (K : PySem.W.Frag) (F : Addr → Prop) (H : Hp) (t : Bool) (a : Addr) (vs : List V) : Prop := match t with
  | true => TupAt K F H a vs
  | false => (F a ∧ H a = some (.lst vs)) ∨ ScrAt K F H a vs
theorem FrzAt.ext {t : Bool} {a : Addr} {vs : List V} (e : Ext1 F H F' H') (h : FrzAt K F H t a vs) : FrzAt K F' H' t a vs := by
  cases t with
  | true => exact TupAt.ext e h
  | false =>
    rcases h with ⟨h1, h2⟩ | h
    · exact .inl (e _ _ h1 h2 trivial)
    · exact .inr (ScrAt.ext e h)
theorem FrzAt.sq {t : Bool} {a : Addr} {vs : List V} (h : FrzAt K F H t a vs) : Sqq K t H a vs := by
  cases t with
  | true => exact TupAt.sq h
  | false =>
    rcases h with ⟨h1, h2⟩ | h
    · exact .inl (.inl h2)
    · exact ScrAt.sq h
theorem frz_of {d : D} {v : V} {xs : List D} (r : Rep K mg F H d v) (e : seqS d = some xs) : ∃ t a vs, v = .ref a ∧ FrzAt K F H t a vs ∧ Reps K mg F H xs vs ∧ xs.length ≤ sizeLine := by
  cases d with
  | tup xs => cases e; obtain ⟨a, vs, rfl, t, rr, hl⟩ := r; exact ⟨true, a, vs, rfl, t, rr, hl⟩
  | lst xs => cases e; obtain ⟨a, vs, rfl, f, t, rr, hl⟩ := r; exact ⟨false, a, vs, rfl, .inl ⟨f, t⟩, rr, hl⟩
  | scr xs => cases e; obtain ⟨a, vs, rfl, t, rr, hl⟩ := r; exact ⟨false, a, vs, rfl, .inr t, rr, hl⟩
  | _ => cases e
theorem zipD_len (xs ys : List D) : (zipD xs ys).length = min xs.length ys.length := by unfold zipD; rw [List.length_zipWith]
theorem zipD_get {xs ys : List D} {i : Nat} {x y : D} (h1 : xs[i]? = some x) (h2 : ys[i]? = some y) : (zipD xs ys)[i]? = some (.tup [x, y]) := by
  unfold zipD; rw [List.getElem?_zipWith, h1, h2]
theorem wd_zip {t u : Bool} {a b : Addr} {xs ys : List D} {vs ws : List V} {m0 : MH} (h1 : FrzAt K F H t a vs) (r1 : Reps K mg F H xs vs) (h2 : FrzAt K F H u b ws) (r2 : Reps K mg F H ys ws) (hl : xs.length ≤ sizeLine) : WalkD K mg (ItzQ K t u a b) (zipD xs ys) none m0 F H := by
  refine ⟨fun i m F' H' hi n _ => ?_, fun m F' H' n _ => ?_, by rw [zipD_len]; omega, fun i m F' H' x H2 hi n _ y => ?_⟩
  · rw [zipD_len] at hi
    obtain ⟨v, e1, _⟩ := r1.get (List.getElem?_eq_getElem (show i < xs.length by omega))
    obtain ⟨w, e2, _⟩ := r2.get (List.getElem?_eq_getElem (show i < ys.length by omega))
    exact ⟨vs, ws, v, w, (h1.ext n.ext).sq, (h2.ext n.ext).sq, e1, e2⟩
  · have l1 := r1.len
    have l2 := r2.len
    exact ⟨vs, ws, (h1.ext n.ext).sq, (h2.ext n.ext).sq, by rw [zipD_len]; omega, by rw [zipD_len]; omega, by rw [zipD_len]; omega⟩
  · rw [zipD_len] at hi
    obtain ⟨T, p, q, rfl, hT, rfl, k1, k2⟩ := y
    have e1 := List.getElem?_eq_getElem (show i < xs.length by omega)
    have e2 := List.getElem?_eq_getElem (show i < ys.length by omega)
    obtain ⟨v, f1, g1⟩ := r1.get e1
    obtain ⟨w, f2, g2⟩ := r2.get e2
    have z1 := k1 vs (h1.ext n.ext).sq
    have z2 := k2 ws (h2.ext n.ext).sq
    rw [f1] at z1; cases z1
    rw [f2] at z2; cases z2
    obtain ⟨n2, r⟩ := Nx.newTup n.rel hT (Reps.cons (Rep.ext n.ext _ _ g1) (Reps.one (Rep.ext n.ext _ _ g2))) (by show 2 ≤ sizeLine; decide)
    exact ⟨_, _, zipD_get e1 e2, n2, r⟩
end
section
variable {X : Cx} {W : WX} {ws : WA0}
theorem gi_zip {elts : List Expr} {kk : Nat} {tpos : Pos} {e e2 : Expr} {p pos : Pos} (hg : Gl X "zip") (hm : X.mg "zip" = none) (ha : PA X [e, e2] (RdA X W 2 ws)) (hs : starEach [e, e2] X.env = (false, eval e X.env) :: starEach [e2] X.env) (hpl : (backTo pos (starEach [e2] X.env)).any (·.1) = false) :
    PI X (.Tuple elts kk tpos) (.Call (.Name "zip" p) [e, e2] [] pos) (RdI X W fun ρ m I E => ws ρ m (fun ds m1 => getw (itD m1 .zip ds) fun ig => I ig.1 ig.2 m1) E) := by
  refine ⟨fun pins s σ H R I ⟨ρ, m, F, I0, E0, A, h, g, gx⟩ => ?_⟩
  refine Call_ (ld_blt I hg hm PyProof.Rows.boot_zip (PyProof.Rows.callWith_type1 (thn (ha.run pos pins s σ H (fun vs H1 => ∃ ds m1 F1, ds.length = 2 ∧ Nx X.K X.mg m F H m1 F1 H1 ∧ Reps X.K X.mg F1 H1 ds vs ∧ getw (itD m1 .zip ds) fun ig => I0 ig.1 ig.2 m1) I
    ⟨ρ, m, F, _, E0, A, h, fun ds m1 F1 vs H1 l1 q1 n1 r1 => ⟨ds, m1, F1, l1, n1, r1, q1⟩, gx⟩) fun us s1 ⟨vs, H1, I1, ru, ds, m1, F1, l1, n1, r1, q1⟩ => ?_) hs hpl))
  obtain ⟨ig, e1, q2⟩ := getw_iff.mp q1
  obtain ⟨d, d2, rfl⟩ : ∃ d d2, ds = [d, d2] := by
    match ds, l1 with
    | [d, d2], _ => exact ⟨d, d2, rfl⟩
  obtain ⟨v, w, rfl, rv, rw'⟩ := r1.two'
  obtain ⟨xs, ex, e1⟩ := Option.bind_eq_some_iff.mp e1
  obtain ⟨ys, ey, rfl⟩ := Option.map_eq_some_iff.mp e1
  obtain ⟨t, a, vs, rfl, f1, rA, hl⟩ := frz_of rv ex
  obtain ⟨u, b, ws', rfl, f2, rB, _⟩ := frz_of rw' ey
  cases ru with
  | cons ra rr =>
    cases rr with
    | cons rb rr =>
      cases rr
      cases ra
      cases rb
      obtain ⟨its, rv1, p1, _, la⟩ := sqq_at I1 f1.sq
      obtain ⟨its2, rv2, p2, _, lb⟩ := sqq_at I1 f2.sq
      refine zip_begins2 (begins_seq t a its.toArray) (begins_seq u b its2.toArray) p1 p2 fun h' hz hTI hTO g1 g2 hsz hk => wpAny_pyIter_zip hz ?_
      have I2 : Inv X pins σ H1 { s1 with heap := h' } := I1.kept (t' := s1.toks) hk
      have fresh5 : ∀ c, c ∈ [s1.heap.objs.size + 4, s1.heap.objs.size + 2, s1.heap.objs.size + 3, s1.heap.objs.size, s1.heap.objs.size + 1] → FpOk X pins H1 c := fun c hcm => by
        have e' : c = s1.heap.objs.size + 4 ∨ c = s1.heap.objs.size + 2 ∨ c = s1.heap.objs.size + 3 ∨ c = s1.heap.objs.size ∨ c = s1.heap.objs.size + 1 := by simpa using hcm
        have hle : s1.heap.objs.size ≤ c := by
          rcases e' with z | z | z | z | z
          · rw [z]; exact Nat.le_add_right _ _
          · rw [z]; exact Nat.le_add_right _ _
          · rw [z]; exact Nat.le_add_right _ _
          · rw [z]; exact Nat.le_refl _
          · rw [z]; exact Nat.le_add_right _ _
        exact I1.fpOk hle (I1.hok.fresh hle)
      have i1 : iterAt t h' s1.heap.objs.size a 0 := by
        cases t with
        | true => exact ⟨_, g1, rfl, rfl⟩
        | false => exact ⟨_, g1, rfl, rfl⟩
      have i2 : iterAt u h' (s1.heap.objs.size + 1) b 0 := by
        cases u with
        | true => exact ⟨_, g2, rfl, rfl⟩
        | false => exact ⟨_, g2, rfl, rfl⟩
      exact ⟨s1.heap.objs.size + 4, [s1.heap.objs.size + 4, s1.heap.objs.size + 2, s1.heap.objs.size + 3, s1.heap.objs.size, s1.heap.objs.size + 1], _, _, H1, rfl, I2, turn_zipQ (zap_of la lb), ⟨hz, hTI, ⟨_, _, hTO⟩, i1, i2⟩, fresh5,
        g _ _ _ _ _ _ q2 n1 (wd_zip f1 rA f2 rB hl)⟩
end
/-! ### a call of what a name holds -/
section
variable {X : Cx} {W : WX} {e : Expr} {es : List Expr} {ws : WA0} {p pos : Pos} {x : Str}
theorem ge_cv {c : Cfg} {i n j : Nat} {gs : List String} (ff : ∀ f ∈ gs, FnF X.prog X.w X.K X.mg X.base j f n [] (fun ds _ => ds) (c.call f)) (hr : Room j X.A) (tk : L2N.Takes X W) (hN : X.N[i]? = some x) (hv : Vis X.env.scope x) (hdb : (x == ("__debug__" : Str)) = false) (hcd : (x == ("__classdict__" : Str)) = false)
    (ha : PA X (e :: es) (RdA X W n ws)) (he : starEach (e :: es) X.env = (false, eval e X.env) :: starEach es X.env) (hpl : (backTo pos (starEach es X.env)).any (·.1) = false) :
    PE X (.Call (.Name x p) (e :: es) [] pos) (RdE X W fun ρ m Q E => getw (slot ρ i) fun v => getw (glNm v) fun f => f ∈ gs ∧ ws ρ m (fun ds m1 => c.call f ds m1 Q E) E) := by
  refine ⟨fun pins s σ H Q I ⟨ρ, m, F0, Q0, E0, A, h, gq, gx⟩ => ?_⟩
  obtain ⟨d, e1, h⟩ := getw_iff.mp h
  obtain ⟨v, e2, rv⟩ := A.env.2 i d e1
  obtain ⟨f, e3, hf, h⟩ := getw_iff.mp h
  refine wpAny_Call_Name_kw (thn ((pe_var (pos := p) hN hv hdb hcd).run pins s σ H (fun u H1 => u = v ∧ H1 = H) I ⟨v, e2, rfl, rfl⟩) fun u s1 ⟨v1, H1, I1, r1, q1⟩ => ?_)
  obtain ⟨rfl, rfl⟩ := q1
  have args : RdA X W n ws σ H1 (fun vs H2 => ∃ ds m1 F1, Reps X.K X.mg F1 H2 ds vs ∧ ds.length = n ∧ Nx X.K X.mg m F0 H1 m1 F1 H2 ∧ c.call f ds m1 Q0 E0) :=
    ⟨ρ, m, F0, _, E0, A, h, fun ds m1 F1 vs H2 l1 q1 n1 r1 => ⟨ds, m1, F1, r1, l1, n1, q1⟩, gx⟩
  cases d with
  | gl f' =>
    cases e3
    obtain ⟨u', hm, ru⟩ := rv
    obtain ⟨a, hm', hki, run⟩ := (ff f hf).ex
    rw [hm] at hm'
    cases hm'
    obtain rfl : v1 = V.ref a := by
      cases v1 <;> first | (cases ru; rfl) | (obtain ⟨_, z⟩ := ru; cases z) | (exact absurd ru (by simp [RelV])) | cases ru
    obtain rfl : u = Value.ref a := r1
    refine PySem.W.callWith_K (h₀ := X.base) I.ok.mod.kin hki (thn (ha.run pos pins s1 σ _ _ I1 args) fun us s2 ⟨vs, H2, I2, r, ds, m1, F1, rr, l1, n1, q2⟩ => ⟨I2.kIn, ?_⟩) he hpl
    exact run X W _ _ _ _ _ us [] vs [] rfl rfl rfl rfl rfl hr tk I2 r .nil ⟨ds, [], m1, F1, Q0, E0, rr, rfl, l1, rfl, n1.rel, q2, gq.nx n1, gx.nx n1⟩
  | _ => cases e3
end
end PT
end
section
set_option linter.all false
set_option maxRecDepth 100000
set_option maxHeartbeats 4000000
/-! PtXA: exceptions that are held: isinstance, fields. -/
namespace PT
open PySem PySem.Spec PyProof.Rows L2

section
variable {prog : Program} {w : World} {A : Around} {E : Value → Shared → Prop} {s : Shared} {K : PySem.W.Frag} {x D : Addr} {ox : Obj} {od : Option Obj}
open PySem.W PySem.Calls
theorem findObj_dataO {C : Addr} {name : Str} {a g : Value} (hc : (clsIn K C).isSome = true) (ha : findIn K (.ref C) name = some (some a)) (hg : specialIn K a "__get__" = some (some g)) (ht : takesIn K a = some true) : findObj K C od name = some (.bind g a) := by
  obtain ⟨cd, hc⟩ := Option.isSome_iff_exists.mp hc
  unfold findObj
  rw [hc, Option.bind_some, ha, Option.bind_some]
  simp [hg, ht]
theorem kin_classO {Q : Option Value → Shared → Prop} (C : ExcC K D) (X : K.In s.heap) (I : InstAt s.heap x ox D od) (h : Q (some (.ref D)) { s with toks := s.toks + 1 }) : wpAny (model prog w) A (getAttr? (.ref x) "__class__") Q E s := by
  have hga := C.hg
  have hgt := C.hk
  have hsub := C.hs
  have hdct := C.hd
  have ha := C.ha
  have hn := C.hn
  have htk := C.ht
  have hm := C.hm
  have hf : findObj K D od "__class__" = some (.bind (.builtin "getset_descriptor.__get__") (.builtin "object.__class__")) := findObj_dataO (by obtain ⟨cd, hc, _⟩ := any_some hdct; rw [hc]; rfl) ha hn htk
  obtain ⟨hp, g, d, t, os⟩ := s
  have L0 := I.type (M := model prog w)
  have L1 := looks_findIn (M := model prog w) X hga
  have L2 := looks_findIn (M := model prog w) X hgt
  have L3 := looks_find (M := model prog w) X I hf
  have sub : Looks (model prog w) hp (isInstance (.ref x) (.type "BaseException")) true := L0.andThen (looks_subIn X hsub)
  have hx0 : (false && onTheHeap (Value.builtin "BaseException.__getattribute__")) = false := rfl
  have hx2 : (Value.builtin "BaseException.__getattribute__" == Value.builtin "object.__getattribute__") = false := by decide +kernel
  have hx1 : (onTheHeap (Value.ref D) && Value.builtin "BaseException.__getattribute__" == Value.builtin "object.__getattribute__") = false := by rw [hx2]; rfl
  unfold getAttr? getAttrBy? getAttrBy
  refine wpAny_bind (wpAny_mkText (wpAny_bind (wpAny_attempt (wpAny_holding (wpAny_bind (L0.at (wpAny_bind (L1.at ?_))))))))
  show wpAny _ _ (if (onTheHeap (Value.ref D) && Value.builtin "BaseException.__getattribute__" == Value.builtin "object.__getattribute__") = true then _ else _) _ _ _
  rw [hx1, if_neg Bool.false_ne_true]
  unfold getAttrByItsOwn hookBefore
  refine wpAny_bind ?_
  rw [if_pos (show onTheHeap (Value.ref D) = true from rfl)]
  refine L2.at ?_
  refine wpAny_bind (wpAny_attempt (wpAny_holding ?_))
  unfold callGetattribute
  rw [hx0, if_neg Bool.false_ne_true]
  unfold boundAndCalled
  rw [PySem.F.excAttr_ValueError.ga.bind (.ref x)]
  refine wpAny_bind (wpAny_pure ?_)
  show wpAny _ _ (call (.builtin "BaseException.__getattribute__") [.ref x, .str "__class__" t]) _ _ _
  refine wpAny_call (codeAny_call_builtin PySem.F.excAttr_ValueError.ga.plain PySem.F.entry_bexc_ga ?_)
  refine @check_slot (model prog w) _ _ ⟨hp, g, d, t + 1, os⟩ "BaseException.__getattribute__" "BaseException" "__getattribute__" (.ref x) [.str "__class__" t] [] _ (by decide +kernel) (by decide +kernel) sub (PySem.F.args_bexc_ga (.ref x) (.str "__class__" t)) ?_
  unfold Builtin.«object.__getattribute__»
  refine wpAny_bind (wpAny_of_eq (a := ((Value.ref x : Value), [Value.str "__class__" t])) (by first | rfl | (simp only [slotArgs]; rfl)) ?_)
  refine wpAny_bind (wpAny_pure (wpAny_bind (L0.at (wpAny_bind (L3.at ?_)))))
  show wpAny _ _ (holding [Value.builtin "object.__class__"] (call (.builtin "getset_descriptor.__get__") [.builtin "object.__class__", .ref x, .ref D]) >>= ret) _ _ _
  refine wpAny_bind (wpAny_holding (wpAny_call (class_get (s := ⟨hp, g, d, t + 1, os⟩) (ox := ox) (od := od) X I hm ?_)))
  refine wpAny_pure ?_
  show wpAny _ _ (handedOut (.ref D)) _ _ _
  rw [handedOut_of (v := .ref D) rfl]
  first
    | exact wpAny_pure (wpAny_pure h)
    | exact wpAny_pure h
    | exact wpAny_pure (wpAny_bind (wpAny_pure (wpAny_pure h)))
theorem kitx_excO (C : ExcC K D) : KitX K (.ref x) (.ref D) (fun h => ∃ od, InstAt h x ox D od) where
  ty := fun _ _ _ I => by obtain ⟨_, J⟩ := I; exact J.type
  it := fun _ _ X _ => by
    obtain ⟨cdD, hcD, _⟩ := any_some C.hd
    unfold clsIn at hcD
    split at hcD
    · rename_i c' d' cd' sl' ho
      intro A' Q' E' s' k q
      unfold isType loadHead
      exact wpAny_bind (wpAny_loadPart (k _ _ (X _ _ ho)) (wpAny_pure q))
    · cases hcD
  ne := fun h tp dd its n sl X htp => by
    obtain ⟨cdD, hcD, _⟩ := any_some C.hd
    refine Bool.eq_false_iff.mpr fun q => ?_
    have e : D = tp := Value.ref.inj (beq_iff_eq.mp q)
    subst e
    unfold clsIn at hcD
    split at hcD
    · rename_i c' d' cd' sl' ho
      have z := (X _ _ ho).symm.trans htp
      cases z
    · cases hcD
  ca := fun X I k => by obtain ⟨_, J⟩ := I; exact kin_classO C X J k
end
section
variable {X : Cx} {pins : List (Addr × Obj)} {σ : L2.St} {H : Hp} {s : Shared}
/-- the object of a held exception -/
theorem exc_inst {F : Addr → Prop} {a C : Addr} {oe : Obj} {fs : List (Str × V)} (I : Inv X pins σ H s) (e : H a = some (exq a oe)) (x : XObj C oe) (d : XDict F H oe.dict fs) : s.heap.get? a = some oe ∧ ∃ od, PySem.W.InstAt s.heap a oe C od := by
  have h : s.heap.get? a = some oe := (I.hok a _ e).1
  obtain ⟨h1, ws, h2, _⟩ := x
  refine ⟨h, ?_⟩
  have nc : PySem.W.notCls oe := by unfold PySem.W.notCls; rw [h2] <;> rfl
  cases q : oe.dict with
  | none => exact ⟨none, h, h1, nc, by rw [q]; exact trivial⟩
  | some dx =>
    rw [q] at d
    obtain ⟨_, fs', ed, _⟩ := d
    obtain ⟨mA, hns, hr⟩ := I.hok dx _ ed
    obtain ⟨od, ho, hl⟩ := lookIn_ns hns
    exact ⟨some od, h, h1, nc, by rw [q]; exact ho⟩
end
/-- a class by its name, in the text -/
def NamC (mg : Str → Option Value) (x : String) (c : V) (u : Value) : Prop :=
  (∃ C, mg (Str.ofString x) = some (.ref C) ∧ c = .ref C ∧ u = .ref C) ∨ (mg (Str.ofString x) = none ∧ bootBuiltins (Str.ofString x) = some (.type x) ∧ Str.ofString x ≠ "__name__" ∧ c = .ty x ∧ u = .type x)
/-- the table of exception classes is right -/
structure SubF (K : PySem.W.Frag) (mg : Str → Option Value) (sub : String → String → Option Bool) : Prop where
  ok : ∀ t x b, sub t x = some b → ∃ c u, NamC mg x c u ∧ ∀ C, mg (Str.ofString t) = some (.ref C) → PySem.W.kitOne K (.ref C) u = some b ∧ PySem.W.exmOne K (.ref C) u = some b
theorem NamC.pe {X : Cx} {x : String} {c : V} {u : Value} {pos : Pos} (n : NamC X.mg x c u) (hg : Gl X (Str.ofString x)) (hd : (Str.ofString x == ("__debug__" : Str)) = false) : PE X (.Name (Str.ofString x) pos) (tC c) := by
  rcases n with ⟨C, hm, rfl, rfl⟩ | ⟨hm, hb, hn, rfl, rfl⟩
  · exact pe_glob hg hm rfl hd
  · exact pe_bltn hg hm hb rfl hn hd
theorem NamC.cls {mg : Str → Option Value} {x : String} {c : V} {u u' : Value} (n : NamC mg x c u) (r : RelV c u') : u' = u := by
  rcases n with ⟨C, _, rfl, rfl⟩ | ⟨_, _, _, rfl, rfl⟩
  · exact r
  · exact r
theorem NamC.det {mg : Str → Option Value} {x : String} {c c' : V} {u u' : Value} (n : NamC mg x c u) (n' : NamC mg x c' u') : c = c' ∧ u = u' := by
  rcases n with ⟨C, h, rfl, rfl⟩ | ⟨h, _, _, rfl, rfl⟩ <;> rcases n' with ⟨C', h', rfl, rfl⟩ | ⟨h', _, _, rfl, rfl⟩
  · rw [h] at h'; cases h'; exact ⟨rfl, rfl⟩
  · rw [h] at h'; cases h'
  · rw [h] at h'; cases h'
  · exact ⟨rfl, rfl⟩
section
variable {X : Cx} {W : WX} {e : Expr} {x f : String} {pos p1 p2 : Pos} {wa : WE0} {sub : String → String → Option Bool}
/-- isinstance(e, C), e an exception -/
theorem ge_isx (sf : SubF X.K X.mg sub) (hx : ∃ t b, sub t x = some b) (hg : Gl X "isinstance") (hm : X.mg "isinstance" = none) (hgx : Gl X (Str.ofString x)) (hd : (Str.ofString x == ("__debug__" : Str)) = false) (he : PE X e (RdE X W wa)) (hst : starEach [e, .Name (Str.ofString x) p2] X.env = (false, eval e X.env) :: starEach [.Name (Str.ofString x) p2] X.env) :
    PE X (.Call (.Name "isinstance" p1) [e, .Name (Str.ofString x) p2] [] pos) (RdE X W fun ρ m Q E => wa ρ m (fun v m1 => match v with | .exc _ t _ _ => getw (sub t x) fun b => Q (.bl b) m1 | _ => False) E) := by
  obtain ⟨t0, b0, h0⟩ := hx
  obtain ⟨c, u, nc, _⟩ := sf.ok _ _ _ h0
  have boot : bootBuiltins "isinstance" = some (.builtin "isinstance") := boot_isinstance
  have pn : PE X (.Name (Str.ofString x) p2) (tC c) := nc.pe hgx hd
  have cr : CallR X (.builtin "isinstance") (fun vs H Q => ∃ m1 F1 v, vs = [v, c] ∧ RelH X.K X.mg m1 F1 H ∧ ∃ d Q0, Rep X.K X.mg F1 H d v ∧ (match d with | .exc _ t _ _ => getw (sub t x) fun b => Q0 (D.bl b) m1 | _ => False) ∧ GoQ X.K X.mg m1 F1 H Q0 Q) := by
    intro pins s σ H vs us Q I r ⟨m1, F1, v, ev, R, d, Q0, rd, hw, g⟩
    subst ev
    cases d with
    | exc a t ns ws =>
      obtain ⟨b, eb, q⟩ := getw_iff.mp hw
      obtain ⟨c', u', nc', hk⟩ := sf.ok _ _ _ eb
      obtain ⟨rfl, rfl⟩ := nc.det nc'
      obtain ⟨rfl, fa, oe, C, uu, e1, k, xo, rr, xd⟩ := rd
      obtain ⟨_, od, J⟩ := exc_inst I e1 xo xd
      obtain ⟨k1, _⟩ := hk C k.1
      cases r with
      | cons rx rr2 =>
        cases rr2 with
        | cons rt rr3 =>
          cases rr3
          cases rx
          have := nc.cls rt
          subst this
          exact PySem.W.kia_one (kitx_excO k.2.1) I.kIn ⟨od, J⟩ k1 (fun z => nomatch z) fun tk => ⟨.bl b, H, I.kept (t' := tk) fun _ _ z => z, rfl, g.go q R rfl⟩
    | _ => exact hw.elim
  refine PE.imp (pe_callB cr hg hm boot (pa_cons he (pa_cons pn pa_nil) hst) (he := hst) (hpl := rfl)) fun σ H Q ⟨ρ, m, F, Q0, E0, A, q, g, gx⟩ => rd1 A q gx fun d m1 F1 v H1 q1 n1 r1 => ?_
  exact ⟨m1, F1, v, rfl, n1.rel, d, Q0, r1, q1, g.nx n1⟩
/-- e.f, e an exception -/
theorem ge_xat {cf : String → Bool} (hno : ∀ t C, X.mg (Str.ofString t) = some (.ref C) → cf t = true → PySem.W.findIn X.K (.ref C) (Str.ofString f) = some none) (he : PE X e (RdE X W wa)) (hb : attributeBase e (Str.ofString f) X.env (eval e X.env) = eval e X.env) :
    PE X (.Attribute e (Str.ofString f) pos) (RdE X W fun ρ m Q E => wa ρ m (fun v m1 => (match v with | .exc _ t _ _ => cf t = true | _ => False) ∧ getw (xatD v f) fun d => Q d m1) E) := by
  refine ⟨fun pins s σ H Q I ⟨ρ, m, F, Q0, E0, A, h, g, gx⟩ => ?_⟩
  refine attr_of hb (thn (he.run pins s σ H (fun v H1 => ∃ d m1 F1, Nx X.K X.mg m F H m1 F1 H1 ∧ Rep X.K X.mg F1 H1 d v ∧ (match d with | .exc _ t _ _ => cf t = true | _ => False) ∧ getw (xatD d f) fun d => Q0 d m1) I ⟨ρ, m, F, _, E0, A, h, fun d m1 F1 v H1 q1 n1 r1 => ⟨d, m1, F1, n1, r1, q1⟩, gx⟩) fun u s1 hh => ?_)
  obtain ⟨v, H1, I1, rx, d, m1, F1, n1, r1, hw, q⟩ := hh
  cases d with
  | exc a t ns ws =>
    obtain ⟨rfl, fa, oe, C, uu, e1, k, xo, rr, xd⟩ := r1
    obtain ⟨dd, ed, q2⟩ := getw_iff.mp q
    have T := k.2.2
    obtain rfl : u = Value.ref a := rx
    obtain ⟨wv, lw, rw⟩ := look_zip rr (show (ns.zip ws).lookup f = some dd from ed)
    have ha : s1.heap.get? a = some oe := (I1.hok a _ e1).1
    obtain ⟨h1, ws', h2, _⟩ := xo
    have nc : PySem.W.notCls oe := by unfold PySem.W.notCls; rw [h2] <;> rfl
    cases q : oe.dict with
    | none =>
      rw [q] at xd
      have xd : _ = [] := xd
      rw [xd] at lw; cases lw
    | some dx =>
      rw [q] at xd
      obtain ⟨fdx, fs', edx, hl'⟩ := xd
      have hx : ObjOk X.prog X.w H1 s1.heap dx (.xd fs') := I1.hok dx _ edx
      obtain ⟨mA, hns, hr⟩ := hx
      obtain ⟨od, ho, hl⟩ := lookIn_ns hns
      obtain ⟨u, hu, ru⟩ := RelO.some_of (v := wv) (o := mA (Str.ofString f)) (by rw [← hl' _ _ lw]; exact hr _)
      have J : PySem.W.InstAt s1.heap a oe C (some od) := ⟨ha, h1, nc, by rw [q]; exact ho⟩
      exact HandSPX.exc_get I1.kIn J T.ga T.gg T.exC (PySem.W.findObj_own T.hdC (hno t C k.1 hw) rfl (by rw [hl, hu])) (handed_of ru) ⟨wv, H1, I1.tok _, ru, g _ _ _ _ _ q2 n1 rw⟩
  | _ => exact hw.elim
end
/-- what the __init__ of such a class tells -/
def spX (K : PySem.W.Frag) (f : Str) : Sp := fun vs H Q E => ∃ a C v, vs = [.ref a, v] ∧ H a = some (exo a C none) ∧ OexC K C ∧ PySem.W.findIn K (.ref C) f = some none ∧
  ∀ dx, H dx = none → dx ≠ a → Q .non (upd (upd H dx (exd dx [(f, v)])) a (exo a C (some dx)))
/-- a class over ValueError whose __init__ sets one field -/
structure RaiseF (P : Program) (w : World) (K : PySem.W.Frag) (mg : Str → Option Value) (base : Heap) (f : String) (ns : List String) : Prop where
  ex : ∃ (C fI : Addr) (fd : FuncData) (n : String), ns = [n] ∧ XcAt K mg f C ∧ OexC K C ∧ PySem.W.findIn K (.ref C) "__init__" = some (some (.ref fI)) ∧ PySem.W.typeIn K (.ref fI) = some (.type "function") ∧
    FnOk P w K mg base (L2N.CX P w) 1 fI fd ["self", Str.ofString n] (spX K (Str.ofString n)) ∧ Binds K fd ["self", Str.ofString n] [] ∧ PySem.W.findIn K (.ref C) (Str.ofString n) = some none
end PT
end
section
set_option linter.all false
set_option maxRecDepth 100000
set_option maxHeartbeats 4000000
/-! PtK: the check that the small syntax is the program's text. -/
namespace PT
open PySem PySem.Spec PyProof.Rows L2

def plainE : Expr → Bool
  | .Starred .. => false
  | .Slice .. => false
  | .Set .. => false
  | _ => true
def simpE : Expr → Bool
  | .Name .. => true
  | .Call .. => true
  | .Attribute .. => true
  | .Subscript .. => true
  | .Dict .. => true
  | _ => false
def notComp : Expr → Bool
  | .ListComp .. => false
  | .SetComp .. => false
  | .DictComp .. => false
  | _ => true
def visB (sc : Scope) (x : Str) : Bool := match sc.names.lookup x with
  | some .local => true
  | some .cell => true
  | some .free => true
  | _ => false
def locB (sc : Scope) (x : Str) : Bool := match sc.names.lookup x with
  | some .local => true
  | some .cell => true
  | _ => false
def lclB (sc : Scope) (x : Str) : Bool := match sc.names.lookup x with
  | some .local => true
  | _ => false
def glB (sc : Scope) (x : Str) : Bool := match sc.names.lookup x with
  | some .globalImplicit => true
  | _ => false
def strB (s : String) (x : Str) : Bool := x == Str.ofString s
def binQ (op : BOp) (o : Operator) : Bool := match op, o with
  | .add, .Add => true
  | .sub, .Sub => true
  | .mul, .Mult => true
  | .fdiv, .FloorDiv => true
  | .mod, .Mod => true
  | .pow, .Pow => true
  | _, _ => false
def copQ (op : COp) (o : CmpOp) : Bool := match op, o with
  | .eq, .Eq => true
  | .ne, .NotEq => true
  | .lt, .Lt => true
  | .le, .LtE => true
  | .gt, .Gt => true
  | .ge, .GtE => true
  | .is_, .Is => true
  | .isn, .IsNot => true
  | .in_, .In => true
  | .nin, .NotIn => true
  | _, _ => false
theorem binQ_of {op : BOp} {o : Operator} (h : binQ op o = true) : o = bopOf op := by
  cases op <;> cases o <;> first | rfl | cases h
theorem copQ_of {op : COp} {o : CmpOp} (h : copQ op o = true) : o = copOf op := by
  cases op <;> cases o <;> first | rfl | cases h
theorem strB_of {s : String} {x : Str} (h : strB s x = true) : x = Str.ofString s := of_decide_eq_true (by
  unfold strB at h
  rw [beq_iff_eq] at h
  exact decide_eq_true h)
theorem glB_of {sc : Scope} {x : Str} (h : glB sc x = true) : sc.names.lookup x = some .globalImplicit := by
  unfold glB at h
  split at h
  · assumption
  · cases h
theorem lclB_of {sc : Scope} {x : Str} (h : lclB sc x = true) : sc.names.lookup x = some .local := by
  unfold lclB at h
  split at h
  · assumption
  · cases h
theorem locB_of {sc : Scope} {x : Str} (h : locB sc x = true) : Loc sc x := by
  unfold locB at h
  split at h
  · exact .inl (by assumption)
  · exact .inr (by assumption)
  · cases h
theorem visB_of {sc : Scope} {x : Str} (h : visB sc x = true) : Vis sc x := by
  unfold visB at h
  split at h
  · exact .inl (by assumption)
  · exact .inr (.inl (by assumption))
  · exact .inr (.inr (by assumption))
  · cases h
def goodB (s : List Nat) : Bool := decide (s.length ≤ 16777216) && s.all fun c => decide (c < 0x110000)
/-- constant keys -/
def keysB : List (List Nat) → List (Option Expr) → Bool
  | [], kes => match kes with | [] => true | _ => false
  | k :: ks, kes => match kes with | some (.Constant (.str x) _ _) :: r => decide (x = mkS k) && keysB ks r | _ => false
def dbgB (x : Str) : Bool := !(x == ("__debug__" : Str)) && !(x == ("__classdict__" : Str))
/-- a constant -/
def ckC : D → Const → Bool
  | .non, k => match k with | .none => true | _ => false
  | .bl b, k => match k with | .bool b' => b == b' | _ => false
  | .int i, k => match k with | .int i' => decide (i = i') | _ => false
  | .str s, k => match k with | .str x => decide (x = mkS s) && goodB s | _ => false
  | _, _ => false
/-- where an exception is handled -/
def hotB : List (String × CS) → Bool
  | (f, _) :: _ => f == "!"
  | [] => false
def heatF (fs : List (String × CS)) : List (String × CS) := ("!", .pl 0) :: fs
/-- what it calls -/
def callB (c : Cks) (fs : List (String × CS)) (f : String) (s : CS) : Bool := decide ((f, s) ∈ fs) && f != "" && !hotB fs
def kwsB : List String → List Keyword → Bool
  | [], [] => true
  | k :: ks, ⟨some x, _, _⟩ :: ws => strB k x && kwsB ks ws
  | _, _ => false
def notCall0 : Expr → Bool
  | .Call (.Name _ _) [] [] _ => false
  | _ => true
mutual
def ckG (N : List Str) (so : Scope) : Tg → Expr → Bool
  | .nm i, e => match e with | .Name x _ => decide (N[i]? = some x) && locB so x | _ => false
  | .tp ts, e => match e with | .Tuple es _ _ => ckGs N so ts es | _ => false
def ckGs (N : List Str) (so : Scope) : List Tg → List Expr → Bool
  | [], es => match es with | [] => true | _ => false
  | t :: ts, es => match es with | e :: es => ckG N so t e && ckGs N so ts es | _ => false
end
/-- what a for walks -/
def ckI (b : List Expr → Bool) (n : Nat) (k : ItK) (sc : Scope) (it t : Expr) : Bool := match k with
  | .val => decide (n = 1) && b [it]
  | .range => (match it with | .Call (.Name x _) as [] _ => strB "range" x && glB sc x && (decide (n = 1) || decide (n = 2)) && b as | _ => false)
  | .enum => (match it, t with | .Call (.Name x _) as [] _, .Tuple _ _ _ => strB "enumerate" x && glB sc x && decide (n = 1) && b as | _, _ => false)
  | .zip => (match it, t with | .Call (.Name x _) as [] _, .Tuple _ _ _ => strB "zip" x && glB sc x && decide (n = 2) && b as | _, _ => false)
section
variable (c : Cks) (N : List Str) (fs : List (String × CS))
mutual
def ckE : Ex → Scope → Expr → Bool
  | .var i, sc, e => match e with | .Name x _ => decide (N[i]? = some x) && visB sc x && dbgB x | _ => false
  | .lit d, sc, e => match e with
    | .Constant k _ _ => ckC d k
    | .Name x _ => match d with | .ty n => strB n x && glB sc x && bltT.contains n && dbgB x | _ => false
    | _ => false
  | .glo g, sc, e => match e with | .Name x _ => (c.glob g).isSome && strB g x && glB sc x && dbgB x | _ => false
  | .tup es, sc, e => match e with | .Tuple as _ _ => decide (es.length ≤ 1000) && ckEs es sc as | _ => false
  | .lst es, sc, e => match e with | .List as _ => decide (es.length ≤ 1000) && ckEs es sc as | _ => false
  | .newl es, sc, e => match e with | .List as _ => decide (es.length ≤ 1000) && ckEs es sc as | _ => false
  | .newd, _, e => match e with | .Dict [] [] _ => true | _ => false
  | .dlit ks es, sc, e => match e with | .Dict kes ves _ => keysB ks kes && decide ks.Nodup && decide (ks.length ≤ 15) && decide (0 < ks.length) && decide (ks.length = es.length) && ckEs es sc ves | _ => false
  | .bin op a b, sc, e => match e with | .BinOp x o y _ => binQ op o && ckE a sc x && ckE b sc y | _ => false
  | .neg a, sc, e => match e with | .UnaryOp .USub x _ => ckE a sc x | _ => false
  | .cmp op a b, sc, e => match e with | .Compare x [o] [y] _ => copQ op o && plainE y && ckE a sc x && ckE b sc y | _ => false
  | .cmp2 op op' a b d, sc, e => match e with | .Compare x [o, o'] [y, z] _ => copQ op o && copQ op' o' && plainE z && ckE a sc x && ckE b sc y && ckE d sc z | _ => false
  | .and a b, sc, e => match e with
    | .BoolOp .And (x :: y :: r) p => ckE a sc x && (match r with | [] => ckE b sc y | _ => ckE b sc (.BoolOp .And (y :: r) p))
    | _ => false
  | .or a b, sc, e => match e with
    | .BoolOp .Or (x :: y :: r) p => ckE a sc x && (match r with | [] => ckE b sc y | _ => ckE b sc (.BoolOp .Or (y :: r) p))
    | _ => false
  | .not a, sc, e => match e with | .UnaryOp .Not x _ => ckE a sc x | _ => false
  | .ite d a b, sc, e => match e with | .IfExp z x y _ => ckE d sc z && ckE a sc x && ckE b sc y | _ => false
  | .idx a i, sc, e => match e with | .Subscript x y _ => plainE y && ckE a sc x && ckE i sc y | _ => false
  | .sl a lo hi, sc, e => match e with | .Subscript x (.Slice l h none _) _ => ckE a sc x && ckP lo sc l && ckP hi sc h | _ => false
  | .call f es, sc, e => match e with | .Call (.Name x _) as [] _ => strB f x && glB sc x && dbgB x && callB c fs f (.pl es.length) && ckEs es sc as | _ => false
  | .callk f sg es ws, sc, e => match e with
    | .Call (.Name x _) as kws _ => strB f x && glB sc x && dbgB x && (callB c fs f (.kw sg) && decide (sg.n = es.length) && kwsB sg.ks kws && decide (sg.ks.length = ws.length)) && ckEs es sc as && ckEs ws sc (kws.map (·.value))
    | _ => false
  | .bi f es, sc, e => match e with | .Call (.Name x _) (a :: as) [] _ => strB f x && glB sc x && dbgB x && (if hotB fs then ["len", "isinstance", "tuple", "list", "int"].contains f else bltF.contains f || ["tuple", "list", "int"].contains f) && ckEs es sc (a :: as) | _ => false
  | .me f o es, sc, e => match e with
    | .Call (.Attribute ob x ap) (a :: as) [] p => strB f x && ["join", "split", "append", "count", "index"].contains f && notCall0 ob && (ap.endLine == p.line) && decide (as.length < 28) && ckE o sc ob && ckEs es sc (a :: as)
    | _ => false
  | .gin neg a g, sc, e => match e with | .Compare x [o] [.Name y _] _ => copQ (if neg then .nin else .in_) o && (c.dic g).isSome && strB g y && glB sc y && dbgB y && ckE a sc x | _ => false
  | .gat g a, sc, e => match e with | .Subscript (.Name x _) y _ => plainE y && (c.dic g).isSome && strB g x && glB sc x && dbgB x && ckE a sc y | _ => false
  | .attr o f, sc, e => match e with | .Attribute ob x _ => strB f x && notCall0 ob && ckE o sc ob | _ => false
  | .isi a g, sc, e => match e with | .Call (.Name x _) [b, .Name y _] [] _ => strB "isinstance" x && glB sc x && strB g y && glB sc y && dbgB y && c.cls g && plainE b && ckE a sc b | _ => false
  | .frz a, sc, e => simpE e && ckE a sc e
  | .mth t f o es, sc, e => match e with
    | .Call (.Attribute ob x ap) as [] p => strB f x && notCall0 ob && (ap.endLine == p.line) && decide (as.length < 28) && (decide (("", CS.me t f es.length) ∈ fs) && !hotB fs) && ckE o sc ob && ckEs es sc as
    | _ => false
  | .rev a, sc, e => match e with | .Subscript x (.Slice none none (some (.UnaryOp .USub (.Constant (.int 1) _ _) _)) _) _ => ckE a sc x | _ => false
  | .din neg k d, sc, e => match e with | .Compare x [o] [y] _ => copQ (if neg then .nin else .in_) o && plainE y && ckE k sc x && ckE d sc y | _ => false
  | .dget d k, sc, e => match e with | .Subscript x y _ => plainE y && ckE d sc x && ckE k sc y | _ => false
  | .isx a g, sc, e => match e with | .Call (.Name x _) [b, .Name y _] [] _ => strB "isinstance" x && glB sc x && strB g y && glB sc y && dbgB y && (c.sub g g).isSome && plainE b && ckE a sc b | _ => false
  | .xat o f, sc, e => match e with | .Attribute ob x _ => strB f x && notCall0 ob && ckE o sc ob | _ => false
  | .xcall f es, sc, e => match e with | .Call (.Name x _) (a :: as) [] _ => strB f x && glB sc x && dbgB x && (decide ((f, CS.ht es.length) ∈ fs) && hotB fs) && ckEs es sc (a :: as) | _ => false
  | .hcomp i elt v r own, sc, e => match e with
    | .ListComp el [⟨.Name y py, .Call (.Name x _) [a0] [] _, [], 0⟩] scope _ => hotB fs && tgIn own (.nm v) && decide (own.all (fun i => decide (i < N.length)) = true) && blkC N sc scope (own.map fun i => (N.getD i ⟨#[]⟩, i)) && ckG N scope (.nm v) (.Name y py) && ckE elt (relS scope sc) el && (strB "range" x && glB sc x && plainE a0) && ckE r sc a0
    | _ => false
  | .cv i gs es, sc, e => match e with | .Call (.Name x _) (a :: as) [] _ => decide (N[i]? = some x) && visB sc x && dbgB x && gs.all (fun g => callB c fs g (.pl es.length)) && ckEs es sc (a :: as) | _ => false
  | .comp elt tg k es ifs own mu, sc, e => match e with
    | .ListComp el [⟨t, it, fl, 0⟩] scope _ => !hotB fs && plainE it && tgIn own tg && decide (own.all (fun i => decide (i < N.length)) = true) && blkC N sc scope (own.map fun i => (N.getD i ⟨#[]⟩, i)) && ckG N scope tg t && ckE elt (relS scope sc) el && decide (ifs.length ≤ 1) && ckEs ifs (relS scope sc) fl &&
      ckI (fun as => ckEs es sc as) es.length k sc it t
    | _ => false
termination_by structural x => x
def ckEs : List Ex → Scope → List Expr → Bool
  | [], _, as => match as with | [] => true | _ => false
  | x :: xs, sc, as => match as with | a :: as => plainE a && ckE x sc a && ckEs xs sc as | _ => false
termination_by structural x => x
def ckP : List Ex → Scope → Option Expr → Bool
  | [], sc, o => match o with | none => true | _ => false
  | [x], sc, o => match o with | some e => ckE x sc e | _ => false
  | _ :: _ :: _, _, _ => false
termination_by structural x => x
end
end
end PT
end
section
set_option linter.all false
set_option maxRecDepth 100000
set_option maxHeartbeats 4000000
/-! PtL: what the check says is so (expressions). -/
namespace PT
open PySem PySem.Spec PyProof.Rows L2

/-- a dict of the module with text keys -/
def DictF (K : PySem.W.Frag) (w : World) (mg : Str → Option Value) (x : String) (tab : List (List Nat × D)) : Prop :=
  ∃ d es n, mg (Str.ofString x) = some (.ref d) ∧ KDict K w d es n ∧ ∀ s, ∃ r, PySem.W.nsIn K d (mkS s) = some r ∧ (match tab.lookup s with
    | none => r = none
    | some dd => ∃ u v, r = some u ∧ RelV v u ∧ ∀ F H, Rep K mg F H dd v)
/-- a def that is called where the exception at a0 is handled -/
structure FnX (P : Program) (w : World) (K : PySem.W.Frag) (mg : Str → Option Value) (base : Heap) (j : Nat) (a0 : Addr) (f : String) (n : Nat) (prom : Prom) : Prop where
  ex : ∃ a : Addr, mg (Str.ofString f) = some (.ref a) ∧ PySem.W.keepIn K (.ref a) = true ∧
    ∀ (X : Cx) (W : WX) (pins : List (Addr × Obj)) (σ : L2.St) (H : Hp) (s : Shared) (Q : VK) (us : List Value) (vs : List V), X.prog = P → X.w = w → X.K = K → X.mg = mg → X.base = base → L2H.RoomH j X.A → X.A.handled = some (.ref a0) → L2N.Takes X W → Inv X pins σ H s → Vals vs us →
      (∃ ds m F Q0 E0, Reps X.K X.mg F H ds vs ∧ ds.length = n ∧ RelH X.K X.mg m F H ∧ prom ds m Q0 E0 ∧ GoQ X.K X.mg m F H Q0 Q ∧ GoX X W σ m F H E0) → wpAny (model X.prog X.w) X.A (call (.ref a) us) (EP X pins σ Q) X.xe s
structure Prm (P : Program) (w : World) (K : PySem.W.Frag) (mg : Str → Option Value) (base : Heap) (c : Cfg) (fs : List (String × CS)) (j : Nat) : Prop where
  blt : ∀ n ∈ bltN, mg (Str.ofString n) = none
  glob : ∀ x d, c.glob x = some d → ∃ v u, mg (Str.ofString x) = some u ∧ RelV v u ∧ ∀ F H, Rep K mg F H d v
  dic : ∀ x tab, c.dic x = some tab → DictF K w mg x tab
  call : hotB fs = false → ∀ f s, (f, s) ∈ fs → f ≠ "" → (∀ n, s ≠ .ht n) → FnF P w K mg base j f s.n (s.ks.map Str.ofString) s.arr (c.call f)
  callh : ∀ f n, (f, .ht n) ∈ fs → ∀ a, FnX P w K mg base j a f n (c.callh a f)
  sub : SubF K mg c.sub
  exn : ∀ f ns, c.exn f = some ns → 2 ≤ j ∧ RaiseF P w K mg base f ns
  xfld : ∀ t f C, mg (Str.ofString t) = some (.ref C) → c.xfld t f = true → PySem.W.findIn K (.ref C) (Str.ofString f) = some none
/-- .. its classes and methods -/
structure PrI (P : Program) (w : World) (K : PySem.W.Frag) (mg : Str → Option Value) (base : Heap) (c : Cfg) (fs : List (String × CS)) (j : Nat) : Prop where
  fld : ∀ t f, c.fld t f = true → tyNames.contains t = false ∧ ∀ C, mg (Str.ofString t) = some (.ref C) → NoAttr K C (Str.ofString f)
  cls : ∀ x, c.cls x = true → IsiOk K mg c.cls x
  mth : hotB fs = false → ∀ t f n, ("", CS.me t f n) ∈ fs → FnM P w K mg base j t f n (CS.pl n).arr (c.call (t ++ "." ++ f))
theorem PrI.none {P : Program} {w : World} {K : PySem.W.Frag} {mg : Str → Option Value} {base : Heap} {c : Cfg} {fs : List (String × CS)} {j : Nat} (h1 : ∀ t f, c.fld t f = false) (h2 : ∀ x, c.cls x = false) (h3 : ∀ t f n, ("", CS.me t f n) ∉ fs) : PrI P w K mg base c fs j :=
  ⟨fun t f h => (by rw [h1] at h; exact Bool.noConfusion h), fun x h => (by rw [h2] at h; exact Bool.noConfusion h), fun _ t f n h => absurd h (h3 t f n)⟩
structure OkE (X : Cx) (W : WX) (c : Cfg) (fs : List (String × CS)) (j : Nat) (N : List Str) (sc : Scope) : Prop where
  prm : Prm X.prog X.w X.K X.mg X.base c fs j
  pri : PrI X.prog X.w X.K X.mg X.base c fs j
  hN : X.N = N
  nd : N.Nodup
  sc : X.env.scope = sc
  calm : hotB fs = false → X.calm = true
  tk : L2N.Takes X W
  rmh : L2H.RoomH j X.A
  cold : hotB fs = false → X.A.handled = none
  hot : hotB fs = true → ∃ a, c.hot = some a ∧ X.A.handled = some (.ref a) ∧ c.call = c.callh a
theorem takesN0 {X : Cx} : L2N.Takes X W0 := fun _ _ ⟨_, _, _, _, _, _, _, _, _, _, _, _, _, _, _, _, z⟩ => z.elim
section
variable {X : Cx} {W : WX} {c : Cfg} {fs : List (String × CS)} {j : Nat} {N : List Str} {sc : Scope}
theorem OkE.gl (ok : OkE X W c fs j N sc) {x : Str} (h : glB sc x = true) : Gl X x := by
  show X.env.scope.names.lookup x = _
  rw [ok.sc]; exact glB_of h
theorem OkE.blk (ok : OkE X W c fs j N sc) (s : Shared) (H : Hp) (C : Addr) (cl : List (Str × Addr)) (fp : List Addr) (scope : Scope) : OkE (X.blk s H scope (compEnvC scope cl C X.env) fp) W0 c fs j N (relS scope sc) :=
  ⟨ok.prm, ok.pri, ok.hN, ok.nd, by rw [← ok.sc]; rfl, ok.calm, takesN0, ok.rmh, ok.cold, ok.hot⟩
theorem OkE.room (ok : OkE X W c fs j N sc) (h : hotB fs = false) : Room j X.A := ⟨ok.cold h, ok.rmh.dp, ok.rmh.un⟩
theorem OkE.units (ok : OkE X W c fs j N sc) : X.A.units + 64 < cLine := by have := ok.rmh.un; omega
theorem star_cons {e : Expr} {es : List Expr} {env : Env} (h : plainE e = true) : starEach (e :: es) env = (false, eval e env) :: starEach es env := by
  cases e <;> first | rfl | cases h
theorem plains_of : ∀ {xs : List Ex} {es : List Expr}, ckEs c.ks N fs xs sc es = true → es.all plainE = true ∧ xs.length = es.length
  | [], es, h => by
    unfold ckEs at h
    split at h
    · exact ⟨rfl, rfl⟩
    · cases h
  | x :: xs, es, h => by
    unfold ckEs at h
    split at h
    · rename_i a as
      simp only [Bool.and_eq_true] at h
      obtain ⟨⟨h1, h2⟩, h3⟩ := h
      obtain ⟨i1, i2⟩ := plains_of h3
      exact ⟨by rw [List.all_cons, h1, i1]; rfl, by rw [List.length_cons, List.length_cons, i2]⟩
    · cases h
theorem star_plain {env : Env} {pos : Pos} : ∀ {es : List Expr}, es.all plainE = true → (backTo pos (starEach es env)).any (·.1) = false
  | [], _ => rfl
  | e :: es, h => by
    rw [List.all_cons, Bool.and_eq_true] at h
    rw [star_cons h.1]
    show (false || (backTo pos (starEach es env)).any (·.1)) = false
    rw [star_plain h.2]; rfl
theorem star_all {env : Env} {pos : Pos} : ∀ {es : List Expr}, es.all plainE = true → (backTo pos (starEach es env)).all (fun x => !x.1) = true
  | [], _ => rfl
  | e :: es, h => by
    rw [List.all_cons, Bool.and_eq_true] at h
    rw [star_cons h.1]
    show (true && (backTo pos (starEach es env)).all (fun x => !x.1)) = true
    rw [star_all h.2]; rfl
theorem kws_of {env : Env} {pos : Pos} : ∀ {ks : List String} {kws : List Keyword}, kwsB ks kws = true → (backToKw pos (keywordEach kws env)).filterMap (·.1) = ks.map Str.ofString ∧ (backToKw pos (keywordEach kws env)).all (·.1.isSome) = true ∧ (backToKw pos (keywordEach kws env)).any (·.1.isNone) = false
  | [], [], _ => ⟨rfl, rfl, rfl⟩
  | [], _ :: _, h => by cases h
  | _ :: _, [], h => by cases h
  | _ :: _, ⟨none, _, _⟩ :: _, h => by cases h
  | k :: ks, ⟨some x, v, p⟩ :: kws, h => by
    have h : (strB k x && kwsB ks kws) = true := h
    rw [Bool.and_eq_true] at h
    obtain ⟨i1, i2, i3⟩ := kws_of (env := env) (pos := pos) h.2
    have e := strB_of h.1
    refine ⟨?_, ?_, ?_⟩
    · show x :: (backToKw pos (keywordEach kws env)).filterMap (·.1) = _
      rw [i1, e]; rfl
    · show (true && (backToKw pos (keywordEach kws env)).all (·.1.isSome)) = true
      rw [i2]; rfl
    · show (false || (backToKw pos (keywordEach kws env)).any (·.1.isNone)) = false
      rw [i3]; rfl
theorem dbg_of {x : Str} (h : dbgB x = true) : (x == ("__debug__" : Str)) = false ∧ (x == ("__classdict__" : Str)) = false := by
  unfold dbgB at h
  rw [Bool.and_eq_true] at h
  exact ⟨by simpa using h.1, by simpa using h.2⟩
theorem nm_ne {x : Str} {n : String} (e : x = Str.ofString n) (h : bltN.contains n = true) : x ≠ "__name__" := by
  subst e
  have : ∀ n ∈ bltN, Str.ofString n ≠ ("__name__" : Str) := by decide +kernel
  exact this n (by simpa using h)
/-- a constant -/
theorem so_con {d : D} {k : Const} {i : Nat} {pos : Pos} (h : ckC d k = true) : PE X (.Constant k i pos) (RdE X W fun _ m Q _ => Q d m) := by
  cases d with
  | non => cases k with
    | none => exact ge_con pe_non (fun _ _ _ q => q) fun _ _ => rfl
    | _ => cases h
  | bl b => cases k with
    | bool b' =>
      have h : (b == b') = true := h
      rw [beq_iff_eq] at h
      subst h
      exact ge_con pe_bl (fun _ _ _ q => q) fun _ _ => rfl
    | _ => cases h
  | int n => cases k with
    | int n' =>
      have h : n = n' := of_decide_eq_true h
      subst h
      exact ge_con pe_int (fun _ _ _ q => q) fun _ _ => rfl
    | _ => cases h
  | str s => cases k with
    | str x =>
      have h : (decide (x = mkS s) && goodB s) = true := h
      rw [Bool.and_eq_true] at h
      have e := of_decide_eq_true h.1
      subst e
      have h2 := h.2
      unfold goodB at h2
      simp only [Bool.and_eq_true, List.all_eq_true, decide_eq_true_eq] at h2
      exact ge_con pe_str (fun _ _ _ q => q) fun _ _ => ⟨rfl, by rw [sizeLine_eq]; exact h2.1, h2.2⟩
    | _ => cases h
  | _ => cases h
theorem boot_bltT : ∀ n ∈ bltT, bootBuiltins (Str.ofString n) = some (.type n) := by
  intro n hn
  simp only [bltT, List.mem_cons, List.not_mem_nil, or_false] at hn
  rcases hn with rfl | rfl | rfl | rfl | rfl | rfl
  · exact boot_str
  · exact boot_int
  · exact boot_bool
  · exact boot_tuple
  · exact boot_list
  · exact boot_dict
/-- a test's reading from an expression's -/
theorem both {e : Expr} {x : Ex} (h : PE X e (RdE X W (wpE c x))) (he : ∀ whole, isTrue e X.env whole = (do let v ← whole; standAt e.pos; holding [v] (truthy v))) : PE X e (RdE X W (wpE c x)) ∧ L2.PT X e (RdT X W (wB (wpE c x))) := ⟨h, gt_truth h he⟩
/-! ### tests of and, or, not .. -/
theorem wB_and (a b : Ex) : wB (wpE c (.and a b)) = fun ρ m K E => wB (wpE c a) ρ m (fun k m1 => if k = true then wB (wpE c b) ρ m1 K E else K false m1) E := by
  funext ρ m K E
  show wpE c a ρ m _ E = wpE c a ρ m _ E
  congr 1
  funext x m1
  cases q : truD m1 x with
  | none => rfl
  | some t => cases t with
    | true => rfl
    | false => simp [q]
theorem wB_or (a b : Ex) : wB (wpE c (.or a b)) = fun ρ m K E => wB (wpE c a) ρ m (fun k m1 => if k = true then K true m1 else wB (wpE c b) ρ m1 K E) E := by
  funext ρ m K E
  show wpE c a ρ m _ E = wpE c a ρ m _ E
  congr 1
  funext x m1
  cases q : truD m1 x with
  | none => rfl
  | some t => cases t with
    | false => rfl
    | true => simp [q]
theorem wB_not (a : Ex) : wB (wpE c (.not a)) = fun ρ m K E => wB (wpE c a) ρ m (fun k m1 => K (!k) m1) E := by
  funext ρ m K E
  show wpE c a ρ m _ E = wpE c a ρ m _ E
  rfl
theorem wB_ite (d a b : Ex) : wB (wpE c (.ite d a b)) = fun ρ m K E => wB (wpE c d) ρ m (fun k m1 => if k = true then wB (wpE c a) ρ m1 K E else wB (wpE c b) ρ m1 K E) E := rfl
theorem wB_cmp (op : COp) (a b : Ex) : wB (wpE c (.cmp op a b)) = fun ρ m K E => wpE c a ρ m (fun x m1 => wpE c b ρ m1 (fun y m2 => getw (cmpD m2 op x y) fun z => K z m2) E) E := by
  rfl
theorem wB_cmp2 (op op' : COp) (a b d : Ex) : wB (wpE c (.cmp2 op op' a b d)) = fun ρ m K E => wpE c a ρ m (fun x m1 => wpE c b ρ m1 (fun y m2 => getw (cmpD m2 op x y) fun z =>
      if z = true then wpE c d ρ m2 (fun u m3 => getw (cmpD m3 op' y u) fun z' => K z' m3) E else K false m2) E) E := by
  rfl
theorem PW.ofPT {op : BoolOp} {es : List Expr} {pos : Pos} {t : TT} (h : L2.PT X (.BoolOp op es pos) t) : PW X (.BoolOp op es pos) t := ⟨fun wh pins s σ H Q I q => h.run pins s σ H Q I q⟩
end
end PT
end
section
set_option linter.all false
set_option maxRecDepth 100000
set_option maxHeartbeats 4000000
/-! PtM: soundness of the check (expressions). -/
namespace PT
open PySem PySem.Spec PyProof.Rows L2

section
variable {X : Cx} {W : WX} {c : Cfg} {fs : List (String × CS)} {j : Nat} {N : List Str} {sc : Scope}
theorem rdE_mono {w : WE0} {σ : L2.St} {H : Hp} {Q Q' : VK} (h : RdE X W w σ H Q) (hi : ∀ v H', Q v H' → Q' v H') : RdE X W w σ H Q' :=
  let ⟨ρ, m, F, Q0, E0, A, h, g, gx⟩ := h
  ⟨ρ, m, F, Q0, E0, A, h, fun d m' F' v H' a b c => hi _ _ (g d m' F' v H' a b c), gx⟩
/-! the cases, one by one -/
theorem sc_var (ok : OkE X W c fs j N sc) {i : Nat} {e : Expr} (h : ckE c.ks N fs (.var i) sc e = true) : PE X e (RdE X W (wpE c (.var i))) ∧ L2.PT X e (RdT X W (wB (wpE c (.var i)))) := by
  unfold ckE at h
  split at h
  · rename_i x p
    simp only [Bool.and_eq_true] at h
    obtain ⟨⟨h1, h2⟩, h3⟩ := h
    obtain ⟨d1, d2⟩ := dbg_of h3
    exact both (ge_var (by rw [ok.hN]; exact of_decide_eq_true h1) (by rw [ok.sc]; exact visB_of h2) d1 d2) fun _ => rfl
  · cases h
theorem sc_lit (ok : OkE X W c fs j N sc) {d : D} {e : Expr} (h : ckE c.ks N fs (.lit d) sc e = true) : PE X e (RdE X W (wpE c (.lit d))) ∧ L2.PT X e (RdT X W (wB (wpE c (.lit d)))) := by
  unfold ckE at h
  split at h
  · exact both (so_con h) fun _ => rfl
  · rename_i x p
    split at h
    · rename_i n
      simp only [Bool.and_eq_true] at h
      obtain ⟨⟨⟨h1, h2⟩, h3⟩, h4⟩ := h
      have e := strB_of h1
      subst e
      have hn : n ∈ bltT := by simpa using h3
      exact both (ge_con (pe_bltn (ok.gl h2) (ok.prm.blt n (List.mem_append_left _ (List.mem_append_left _ hn))) (boot_bltT n hn) (show RelV (.ty n) (.type n) from rfl) (nm_ne rfl (List.contains_iff_mem.mpr (List.mem_append_left _ (List.mem_append_left _ hn)))) (dbg_of h4).1) (fun _ _ _ q => q) fun _ _ => rfl) fun _ => rfl
    · cases h
  · cases h
theorem sc_glo (ok : OkE X W c fs j N sc) {g : String} {e : Expr} (h : ckE c.ks N fs (.glo g) sc e = true) : PE X e (RdE X W (wpE c (.glo g))) ∧ L2.PT X e (RdT X W (wB (wpE c (.glo g)))) := by
  unfold ckE at h
  split at h
  · rename_i x p
    simp only [Bool.and_eq_true] at h
    obtain ⟨⟨⟨h0, h1⟩, h2⟩, h3⟩ := h
    have e := strB_of h1
    subst e
    refine both ?_ fun _ => rfl
    obtain ⟨d, q⟩ := Option.isSome_iff_exists.mp h0
    have q : c.glob g = some d := q
    obtain ⟨v, u, e1, r, e2⟩ := ok.prm.glob g d q
    refine PE.imp (pe_glob (ok.gl h2) e1 r (dbg_of h3).1) fun σ H Q ⟨ρ, m, F, Q0, E0, A, hw, gq, gx⟩ => ?_
    have hw : getw (c.glob g) (fun d => Q0 d m) := hw
    rw [q] at hw
    exact gq.go hw A.rel (e2 F H)
  · cases h
theorem OpR.imp {f : Value → Value → Sem Value} {r r' : R2} (h : OpR X f r) (hi : ∀ x y H Q, r' x y H Q → r x y H Q) : OpR X f r' := fun pins s σ H x y v u Q I rx ry q => h pins s σ H x y v u Q I rx ry (hi _ _ _ _ q)
def rGin (K : PySem.W.Frag) (d : Addr) (neg : Bool) : R2 := fun x y H Q => ∃ (z : Str) (r : Option Value), x = .str z ∧ y = .ref d ∧ PySem.W.nsIn K d z = some r ∧ Q (.bl (r.isSome != neg)) H
theorem op_gin {d : Addr} {es : Array DictEntry} {n : Nat} (D : KDict X.K X.w d es n) (neg : Bool) : OpR X (compareOp (copOf (if neg then .nin else .in_))) (rGin X.K d neg) := by
  cases neg with
  | true => exact OpR.imp (op_notIn_kd D) fun x y H Q ⟨z, r, h1, h2, h3, q⟩ => ⟨z, r, h1, h2, h3, by simpa using q⟩
  | false => exact OpR.imp (op_in_kd D) fun x y H Q ⟨z, r, h1, h2, h3, q⟩ => ⟨z, r, h1, h2, h3, by simpa using q⟩
theorem tab_some {K : PySem.W.Frag} {mg : Str → Option Value} {tab : List (List Nat × D)} {s : List Nat} {r : Option Value} (h : match tab.lookup s with | none => r = none | some dd => ∃ u v, r = some u ∧ RelV v u ∧ ∀ F H, Rep K mg F H dd v) : r.isSome = (tab.lookup s).isSome := by
  split at h
  · rw [h]; simp [*]
  · obtain ⟨u, v, rfl, _⟩ := h; simp [*]
theorem sc_gin (ok : OkE X W c fs j N sc) {neg : Bool} {a : Ex} {g : String} {e : Expr} (ih : ∀ e, ckE c.ks N fs a sc e = true → PE X e (RdE X W (wpE c a))) (h : ckE c.ks N fs (.gin neg a g) sc e = true) :
    PE X e (RdE X W (wpE c (.gin neg a g))) ∧ L2.PT X e (RdT X W (wB (wpE c (.gin neg a g)))) := by
  unfold ckE at h
  split at h
  · rename_i x o y p2 p
    simp only [Bool.and_eq_true] at h
    obtain ⟨⟨⟨⟨⟨h1, h0⟩, h2⟩, h3⟩, h4⟩, h5⟩ := h
    have e := strB_of h2
    subst e
    have pa := ih _ h5
    obtain ⟨tab, q⟩ := Option.isSome_iff_exists.mp h0
    have q : c.dic g = some tab := q
    obtain ⟨d, es, n, e1, kd, tb⟩ := ok.prm.dic g tab q
    have oe := copQ_of h1
    subst oe
    have hm : behindInMarks (copOf (if neg = true then COp.nin else COp.in_)) (Expr.Name (Str.ofString g) p2) = false := by rfl
    have pn : PE X (Expr.Name (Str.ofString g) p2) (tC (.ref d)) := pe_glob (ok.gl h3) e1 rfl (dbg_of h4).1
    have key : ∀ {ρ m F σ H} {Q0 : Bool → MH → Prop} {E0} {Q : Bool → Hp → Prop}, At X ρ m F σ H → wpE c a ρ m (fun v m1 => match v with | .str s => getw (c.dic g) fun tab => Q0 ((tab.lookup s).isSome != neg) m1 | _ => False) E0 → (∀ b m' F' H', Q0 b m' → Nx X.K X.mg m F H m' F' H' → Q b H') → GoX X W σ m F H E0 →
        tOp (rGin X.K d neg) (RdE X W (wpE c a)) (tC (.ref d)) σ H (fun v H' => ∃ b, v = .bl b ∧ Q b H') := fun {ρ m F σ H Q0 E0 Q} A hw gq gx => rd1 A hw gx fun v m1 F1 vv H1 q1 n1 r1 => by
      cases v with
      | str s =>
        obtain ⟨rfl, _⟩ := r1
        rw [q] at q1
        obtain ⟨r, er, mt⟩ := tb s
        exact ⟨mkS s, r, rfl, rfl, er, _, rfl, gq _ _ _ _ (by rw [tab_some mt]; exact q1) n1⟩
      | _ => exact q1.elim
    constructor
    · refine PE.imp (pe_cmpR (op_gin kd neg) pa pn hm) fun σ H Q ⟨ρ, m, F, Q0, E0, A, hw, gq, gx⟩ => ?_
      have z := key (Q0 := fun b m' => Q0 (.bl b) m') (Q := fun b H' => Q (.bl b) H') A hw (fun b m' F' H' q n => gq _ _ _ _ _ q n rfl) gx
      exact rdE_mono z fun v H' ⟨zz, r, a1, a2, a3, b, a4, a5⟩ => ⟨zz, r, a1, a2, a3, by rw [a4]; exact a5⟩
    · refine PT.imp (pt_cmpR (op_gin kd neg) pa pn hm) fun σ H Q ⟨ρ, m, F, Q0, E0, A, hw, gq, gx⟩ => ?_
      have z := key (Q0 := Q0) (Q := Q) A hw gq gx
      exact z
  · cases h
theorem sc_gat (ok : OkE X W c fs j N sc) {a : Ex} {g : String} {e : Expr} (ih : ∀ e, ckE c.ks N fs a sc e = true → PE X e (RdE X W (wpE c a))) (h : ckE c.ks N fs (.gat g a) sc e = true) :
    PE X e (RdE X W (wpE c (.gat g a))) ∧ L2.PT X e (RdT X W (wB (wpE c (.gat g a)))) := by
  unfold ckE at h
  split at h
  · rename_i x p2 y p
    simp only [Bool.and_eq_true] at h
    obtain ⟨⟨⟨⟨⟨h1, h0⟩, h2⟩, h3⟩, h4⟩, h5⟩ := h
    have e := strB_of h2
    subst e
    have pa := ih _ h5
    obtain ⟨tab, q⟩ := Option.isSome_iff_exists.mp h0
    have q : c.dic g = some tab := q
    obtain ⟨d, es, n, e1, kd, tb⟩ := ok.prm.dic g tab q
    have pn : PE X (Expr.Name (Str.ofString g) p2) (tC (.ref d)) := pe_glob (ok.gl h3) e1 rfl (dbg_of h4).1
    refine both (PE.imp (pe_ix ix_kdict pn pa (by intro _ _; cases y <;> first | rfl | cases h1)) fun σ H Q ⟨ρ, m, F, Q0, E0, A, hw, gq, gx⟩ => ?_) fun _ => rfl
    have hw : wpE c a ρ m (fun v m1 => match v with | .str s => getw (c.dic g) fun tab => getw (tab.lookup s) fun d => Q0 d m1 | _ => False) E0 := hw
    refine rd1 A hw gx fun v m1 F1 vv H1 q1 n1 r1 => ?_
    cases v with
    | str s =>
      obtain ⟨rfl, _⟩ := r1
      rw [q] at q1
      have q1 : getw (tab.lookup s) (fun d => Q0 d m1) := q1
      obtain ⟨dd, ed, q2⟩ := getw_iff.mp q1
      obtain ⟨r, er, mt⟩ := tb s
      rw [ed] at mt
      obtain ⟨u, v, rfl, rv, rep⟩ := mt
      exact ⟨d, mkS s, v, rfl, rfl, ⟨es, n, u, kd.at_, kd.lit, er, rv⟩, gq _ _ _ _ _ q2 n1 (rep _ _)⟩
    | _ => exact q1.elim
  · cases h
theorem plainIx {y : Expr} (h : plainE y = true) : PlainIx y := by
  intro _ _
  cases y <;> first | rfl | cases h
theorem noSl {y : Expr} (h : plainE y = true) : NoSl y := by
  intro _ _
  cases y <;> first | rfl | cases h
theorem fold_plain {e : Expr} {env : Env} (h : plainE e = true) (x : Value) : foldedSetIterable e env x = pure x := by
  cases e <;> first | rfl | cases h
theorem nomark_plain {o : CmpOp} {y : Expr} (h : plainE y = true) : behindInMarks o y = false := by
  cases y <;> first | rfl | cases h
theorem base_plain {ob : Expr} {nm : Str} {env : Env} (h : notCall0 ob = true) : attributeBase ob nm env (eval ob env) = eval ob env := by
  unfold attributeBase
  split
  · cases h
  · rfl
theorem meT_ty {x : V} {d : D} {m : MH} {F : Addr → Prop} {H : Hp} {T : String} (hT : T = "list" ∨ T = "str") (R : RelH X.K X.mg m F H) (r : Rep X.K X.mg F H d x) (e : tyD m d = some T) : tyV X.K T x H := by
  cases d with
  | str s => obtain ⟨rfl, _⟩ := r; cases e; exact rfl
  | lst xs => obtain ⟨a, vs, rfl, _, t, _⟩ := r; cases e; exact .inl ⟨rfl, vs, .inl (.inl t)⟩
  | scr xs => obtain ⟨a, vs, rfl, t, _⟩ := r; cases e; exact .inl ⟨rfl, vs, t.sq⟩
  | ref a =>
    cases r
    cases q : m a with
    | none => simp [tyD, q] at e
    | some o =>
      cases o with
      | lst xs =>
        simp [tyD, q] at e; subst e
        obtain ⟨vs, t, _⟩ := (R a _ q).2
        exact .inl ⟨rfl, vs, .inl (.inl t)⟩
      | dic _ => simp [tyD, q] at e; subst e; simp at hT
      | ins c _ =>
        simp [tyD, q] at e; subst e
        obtain ⟨C, _, _, k, _⟩ := (R a _ q).2
        rcases hT with rfl | rfl
        · exact absurd k.2.2 (by decide)
        · exact absurd k.2.2 (by decide)
  | dic _ _ => simp [tyD] at e; subst e; simp at hT
  | obj c _ _ =>
    simp [tyD] at e; subst e
    obtain ⟨_, C, _, _, _, _, k, _⟩ := r
    rcases hT with rfl | rfl
    · exact absurd k.2.2 (by decide)
    · exact absurd k.2.2 (by decide)
  | tup xs => simp [tyD] at e; subst e; simp at hT
  | non => simp [tyD] at e; subst e; simp at hT
  | bl _ => simp [tyD] at e; subst e; simp at hT
  | int _ => simp [tyD] at e; subst e; simp at hT
  | ty _ => cases e
  | gl _ => cases e
  | exc _ _ _ _ => cases e
/-- o.m(..) of a built-in thing -/
theorem ge_me {T id : String} {nm : Str} {ob a : Expr} {as : List Expr} {ap p : Pos} {wo : WE0} {n : Nat} {ws : WA0} {f : MH → D → List D → Option (D × MH)} (pa : PlainAttrs T) (slot : Slot T nm id) (hty : typeOf (.builtin id) = pure (.type "method_descriptor")) (hm : MtR X id (VM X f)) (hT : T = "list" ∨ T = "str")
    (ho : PE X ob (RdE X W wo)) (ha : PA X (a :: as) (RdA X W n ws)) (h1 : notCall0 ob = true) (h2 : (ap.endLine == p.line) = true) (h3 : as.length < 28) (h4 : (a :: as).all plainE = true) :
    PE X (.Call (.Attribute ob nm ap) (a :: as) [] p) (RdE X W fun ρ m Q E => wo ρ m (fun x m1 => tyD m1 x = some T ∧ ws ρ m1 (fun ds m2 => getw (f m2 x ds) fun z => Q z.1 z.2) E) E) := by
  have h5 : plainE a = true ∧ as.all plainE = true := by rw [List.all_cons, Bool.and_eq_true] at h4; exact h4
  refine PE.imp (pe_bm pa slot hty hm ho ha (base_plain h1) ?_ h2 (star_cons h5.1) (star_plain h5.2)) fun σ H Q ⟨ρ, m, F, Q0, E0, A, q, g, gx⟩ => ?_
  · rw [star_all h4]
    simp only [Bool.true_and, keywordEach, backToKw, List.map_nil, List.all_nil, List.length_cons, List.length_nil, List.isEmpty_nil, if_true, decide_eq_true_eq]
    omega
  · exact rd1 A q gx fun x m1 F1 v H1 ⟨ty, q1⟩ n1 r1 => ⟨meT_ty hT n1.rel r1 ty, ρ, m1, F1, _, E0, A.nx n1, q1, fun ds m2 F2 vs H2 l q2 n2 r2 => ⟨m2, F2, x, ds, Q0, n2.rel, Rep.ext n2.ext _ _ r1, r2, q2, (g.nx n1).nx n2⟩, gx.nx n1⟩

/-! the whole -/
theorem bif_len (m : MH) (ds : List D) : bifD m "len" ds = lenF m ds := by simp [bifD]
theorem bif_isi (m : MH) (ds : List D) : bifD m "isinstance" ds = isiF m ds := by simp [bifD]
theorem bif_all (m : MH) (ds : List D) : bifD m "all" ds = allF m ds := by simp [bifD]
theorem bif_any (m : MH) (ds : List D) : bifD m "any" ds = anyF m ds := by simp [bifD]
theorem bif_tup (m : MH) (ds : List D) : bifD m "tuple" ds = tupF m ds := by simp [bifD]
theorem bif_lst (m : MH) (ds : List D) : bifD m "list" ds = lstF m ds := by simp [bifD]
theorem bif_int (m : MH) (ds : List D) : bifD m "int" ds = intF ds := by simp [bifD]
theorem bif_max (m : MH) (ds : List D) : bifD m "max" ds = maxF ds := by simp [bifD]
theorem bif_min (m : MH) (ds : List D) : bifD m "min" ds = minF ds := by simp [bifD]
theorem bi_eq {f : String} {g : MH → List D → Option D} (es : List Ex) (h : ∀ m ds, bifD m f ds = g m ds) : wpE c (.bi f es) = fun ρ m Q E => wpEs c es ρ m (fun ds m1 => getw (g m1 ds) fun z => Q z m1) E := by
  funext ρ m Q E
  show wpEs c es ρ m (fun ds m1 => getw (bifD m1 f ds) fun z => Q z m1) E = _
  simp only [h]
theorem sc_bi (ok : OkE X W c fs j N sc) {f : String} {es : List Ex} {e : Expr} (ih : ∀ as, ckEs c.ks N fs es sc as = true → PA X as (RdA X W es.length (wpEs c es))) (h : ckE c.ks N fs (.bi f es) sc e = true) : PE X e (RdE X W (wpE c (.bi f es))) ∧ L2.PT X e (RdT X W (wB (wpE c (.bi f es)))) := by
  unfold ckE at h
  split at h
  · rename_i x p2 a as p
    simp only [Bool.and_eq_true] at h
    obtain ⟨⟨⟨⟨h1, h2⟩, h3⟩, h4⟩, h5⟩ := h
    have e := strB_of h1
    subst e
    have pa := ih _ h5
    have hp := (plains_of h5).1
    have h6 : plainE a = true ∧ as.all plainE = true := by rw [List.all_cons, Bool.and_eq_true] at hp; exact hp
    have hd := (dbg_of h3).1
    have hg := ok.gl h2
    have h4 : f = "len" ∨ f = "isinstance" ∨ (f = "all" ∧ hotB fs = false) ∨ (f = "any" ∧ hotB fs = false) ∨ (f = "max" ∧ hotB fs = false) ∨ (f = "min" ∧ hotB fs = false) ∨ f = "tuple" ∨ f = "list" ∨ f = "int" := by
      split at h4
      · have h4 : f = "len" ∨ f = "isinstance" ∨ f = "tuple" ∨ f = "list" ∨ f = "int" := by simpa using h4
        rcases h4 with h | h | h | h | h <;> simp [h]
      · rename_i hb
        have hb : hotB fs = false := by simpa using hb
        simp only [bltF, Bool.or_eq_true, List.contains_iff_mem, List.mem_cons, List.not_mem_nil, or_false] at h4
        rcases h4 with (h | h | h | h | h | h) | (h | h | h) <;> simp [h, hb]
    have memN : f ∈ bltN := by
      rcases h4 with rfl | rfl | ⟨rfl, _⟩ | ⟨rfl, _⟩ | ⟨rfl, _⟩ | ⟨rfl, _⟩ | rfl | rfl | rfl <;> decide
    have hm := ok.prm.blt f memN
    have hne : Str.ofString f ≠ "__name__" := nm_ne rfl (by simpa using memN)
    have B : ∀ {id : String} {g : MH → List D → Option D}, CallR X (.builtin id) (VN X g) → bootBuiltins (Str.ofString f) = some (.builtin id) → (∀ m ds, bifD m f ds = g m ds) → PE X (.Call (.Name (Str.ofString f) p2) (a :: as) [] p) (RdE X W (wpE c (.bi f es))) := fun cr bt eq => by
      rw [bi_eq es eq]
      exact ge_cb (pe_callB cr hg hm bt pa hne hd (star_cons h6.1) (star_plain h6.2)) fun _ _ _ q => q
    have T : ∀ {id : String} {g : MH → List D → Option D}, CallR X (.type id) (VN X g) → bootBuiltins (Str.ofString f) = some (.type id) → (∀ m ds, bifD m f ds = g m ds) → PE X (.Call (.Name (Str.ofString f) p2) (a :: as) [] p) (RdE X W (wpE c (.bi f es))) := fun cr bt eq => by
      rw [bi_eq es eq]
      exact ge_cb (pe_callTy cr hg hm bt pa hne hd (star_cons h6.1) (star_plain h6.2)) fun _ _ _ q => q
    refine both ?_ fun _ => rfl
    rcases h4 with rfl | rfl | ⟨rfl, hb⟩ | ⟨rfl, hb⟩ | ⟨rfl, hb⟩ | ⟨rfl, hb⟩ | rfl | rfl | rfl
    · exact B call_lenF PySem.boot_len bif_len
    · exact B call_isiF boot_isinstance bif_isi
    · exact B (call_allF (ok.calm hb)) boot_all bif_all
    · exact B (call_anyF (ok.calm hb)) boot_any bif_any
    · exact B (call_maxF (ok.calm hb)) boot_max bif_max
    · exact B (call_minF (ok.calm hb)) boot_min bif_min
    · exact T call_tupF boot_tuple bif_tup
    · exact T call_lstF boot_list bif_lst
    · exact T call_intF boot_int bif_int
  · cases h
theorem met_join (m : MH) (o : D) (as : List D) : metD m "join" o as = (joinM m o as).map fun d => (d, m) := by simp [metD]
theorem met_split (m : MH) (o : D) (as : List D) : metD m "split" o as = (splitM o as).map fun d => (d, m) := by simp [metD]
theorem met_append (m : MH) (o : D) (as : List D) : metD m "append" o as = (appendM m o as).map fun m' => (.non, m') := by simp [metD]
theorem met_count (m : MH) (o : D) (as : List D) : metD m "count" o as = (countM m o as).map fun d => (d, m) := by simp [metD]
theorem met_index (m : MH) (o : D) (as : List D) : metD m "index" o as = (indexM m o as).map fun d => (d, m) := by simp [metD]
theorem me_eq {f T : String} {g : MH → D → List D → Option (D × MH)} (o : Ex) (es : List Ex) (hT : meT f = T) (h : ∀ m x ds, metD m f x ds = g m x ds) :
    wpE c (.me f o es) = fun ρ m Q E => wpE c o ρ m (fun x m1 => tyD m1 x = some T ∧ wpEs c es ρ m1 (fun ds m2 => getw (g m2 x ds) fun z => Q z.1 z.2) E) E := by
  funext ρ m Q E
  show wpE c o ρ m (fun x m1 => tyD m1 x = some (meT f) ∧ wpEs c es ρ m1 (fun ds m2 => getw (metD m2 f x ds) fun z => Q z.1 z.2) E) E = _
  simp only [h, hT]
theorem sc_me (ok : OkE X W c fs j N sc) {f : String} {o : Ex} {es : List Ex} {e : Expr} (io : ∀ e, ckE c.ks N fs o sc e = true → PE X e (RdE X W (wpE c o))) (ih : ∀ as, ckEs c.ks N fs es sc as = true → PA X as (RdA X W es.length (wpEs c es))) (h : ckE c.ks N fs (.me f o es) sc e = true) :
    PE X e (RdE X W (wpE c (.me f o es))) ∧ L2.PT X e (RdT X W (wB (wpE c (.me f o es)))) := by
  unfold ckE at h
  split at h
  · rename_i ob x ap a as p
    simp only [Bool.and_eq_true] at h
    obtain ⟨⟨⟨⟨⟨⟨h1, h2⟩, h3⟩, h4⟩, h5⟩, h6⟩, h7⟩ := h
    have e := strB_of h1
    subst e
    have pa := ih _ h7
    have po := io _ h6
    have hp := (plains_of h7).1
    have h5 := of_decide_eq_true h5
    refine both ?_ fun _ => rfl
    have h2 : f = "join" ∨ f = "split" ∨ f = "append" ∨ f = "count" ∨ f = "index" := by simpa using h2
    rcases h2 with rfl | rfl | rfl | rfl | rfl
    · rw [me_eq (T := "str") o es (by simp [meT]) met_join]
      exact ge_me PySem.F.plainAttrs_str PySem.F.slot_str_join PySem.F.type_str_join mt_joinD (.inr rfl) po pa h3 h4 h5 hp
    · rw [me_eq (T := "str") o es (by simp [meT]) met_split]
      exact ge_me PySem.F.plainAttrs_str PySem.F.slot_str_split PySem.F.type_str_split mt_splitD (.inr rfl) po pa h3 h4 h5 hp
    · rw [me_eq (T := "list") o es (by simp [meT]) met_append]
      exact ge_me PySem.F.plainAttrs_list PySem.F.slot_list_append PySem.F.type_list_append mt_appendD (.inl rfl) po pa h3 h4 h5 hp
    · rw [me_eq (T := "list") o es (by simp [meT]) met_count]
      exact ge_me PySem.F.plainAttrs_list PySem.F.slot_list_count PySem.F.type_list_count mt_countD (.inl rfl) po pa h3 h4 h5 hp
    · rw [me_eq (T := "list") o es (by simp [meT]) met_index]
      exact ge_me PySem.F.plainAttrs_list PySem.F.slot_list_index PySem.F.type_list_index mt_indexD (.inl rfl) po pa h3 h4 h5 hp
  · cases h
theorem sc_attr (ok : OkE X W c fs j N sc) {o : Ex} {f : String} {e : Expr} (ih : ∀ e, ckE c.ks N fs o sc e = true → PE X e (RdE X W (wpE c o))) (h : ckE c.ks N fs (.attr o f) sc e = true) :
    PE X e (RdE X W (wpE c (.attr o f))) ∧ L2.PT X e (RdT X W (wB (wpE c (.attr o f)))) := by
  unfold ckE at h
  split at h
  · rename_i ob x p
    simp only [Bool.and_eq_true] at h
    obtain ⟨⟨h1, h2⟩, h3⟩ := h
    have e := strB_of h1
    subst e
    exact both (ge_attr (cf := fun t => c.fld t f) (fun t C h4 h5 => (ok.pri.fld t f h4).2 C h5) (ih _ h3) (base_plain h2) (fun t h4 => (ok.pri.fld t f h4).1)) fun _ => rfl
  · cases h
theorem sc_isi (ok : OkE X W c fs j N sc) {a : Ex} {g : String} {e : Expr} (ih : ∀ e, ckE c.ks N fs a sc e = true → PE X e (RdE X W (wpE c a))) (h : ckE c.ks N fs (.isi a g) sc e = true) :
    PE X e (RdE X W (wpE c (.isi a g))) ∧ L2.PT X e (RdT X W (wB (wpE c (.isi a g)))) := by
  unfold ckE at h
  split at h
  · rename_i x p1 b y p2 p
    simp only [Bool.and_eq_true] at h
    obtain ⟨⟨⟨⟨⟨⟨⟨h1, h2⟩, h3⟩, h4⟩, h5⟩, h6⟩, h7⟩, h8⟩ := h
    have e := strB_of h1
    subst e
    have e := strB_of h3
    subst e
    exact both (ge_isi (ok.pri.cls g h6) (ok.gl h2) (ok.prm.blt "isinstance" (by decide)) (ok.gl h4) (dbg_of h5).1 (ih _ h8) (star_cons h7) h6) fun _ => rfl
  · cases h
theorem sc_frz (ok : OkE X W c fs j N sc) {a : Ex} {e : Expr} (ih : ∀ e, ckE c.ks N fs a sc e = true → PE X e (RdE X W (wpE c a))) (h : ckE c.ks N fs (.frz a) sc e = true) :
    PE X e (RdE X W (wpE c (.frz a))) ∧ L2.PT X e (RdT X W (wB (wpE c (.frz a)))) := by
  unfold ckE at h
  rw [Bool.and_eq_true] at h
  have p := ge_frz (ih _ h.2)
  have h1 := h.1
  cases e <;> first | exact both p fun _ => rfl | cases h1
theorem callB_of {f : String} {s : CS} (h : callB c.ks fs f s = true) : (f, s) ∈ fs ∧ f ≠ "" ∧ hotB fs = false := by
  unfold callB at h
  simp only [Bool.and_eq_true] at h
  exact ⟨of_decide_eq_true h.1.1, by simpa using h.1.2, by simpa using h.2⟩
theorem sc_call (ok : OkE X W c fs j N sc) {f : String} {es : List Ex} {e : Expr} (ih : ∀ as, ckEs c.ks N fs es sc as = true → PA X as (RdA X W es.length (wpEs c es))) (h : ckE c.ks N fs (.call f es) sc e = true) :
    PE X e (RdE X W (wpE c (.call f es))) ∧ L2.PT X e (RdT X W (wB (wpE c (.call f es)))) := by
  unfold ckE at h
  split at h
  · rename_i x p2 as p
    simp only [Bool.and_eq_true] at h
    obtain ⟨⟨⟨⟨h1, h2⟩, h3⟩, h4⟩, h5⟩ := h
    have e := strB_of h1
    subst e
    obtain ⟨k1, k2, hb⟩ := callB_of h4
    have ff := ok.prm.call hb f (.pl es.length) k1 k2 (fun n z => nomatch z)
    have pl := plains_of h5
    have pa := ih _ h5
    refine both ?_ fun _ => rfl
    cases as with
    | nil =>
      have z : es = [] := List.length_eq_zero_iff.mp pl.2
      subst z
      exact ge_call0 ff (ok.room hb) ok.tk (ok.gl h2) (dbg_of h3).1 gk_nil rfl rfl rfl
    | cons a as =>
      have h6 : plainE a = true ∧ as.all plainE = true := by have := pl.1; rw [List.all_cons, Bool.and_eq_true] at this; exact this
      exact ge_call ff (ok.room hb) ok.tk (ok.gl h2) (dbg_of h3).1 pa gk_nil rfl rfl rfl (star_cons h6.1) (star_plain h6.2)
  · cases h
theorem sc_callk (ok : OkE X W c fs j N sc) {f : String} {sg : Sg} {es ws : List Ex} {e : Expr} (ih : ∀ as, ckEs c.ks N fs es sc as = true → PA X as (RdA X W es.length (wpEs c es)))
    (iw : ∀ kws : List Keyword, ckEs c.ks N fs ws sc (kws.map (·.value)) = true → PK X kws (RdA X W ws.length (wpEs c ws))) (h : ckE c.ks N fs (.callk f sg es ws) sc e = true) :
    PE X e (RdE X W (wpE c (.callk f sg es ws))) ∧ L2.PT X e (RdT X W (wB (wpE c (.callk f sg es ws)))) := by
  unfold ckE at h
  split at h
  · rename_i x p2 as kws p
    simp only [Bool.and_eq_true] at h
    obtain ⟨⟨⟨⟨⟨h1, h2⟩, h3⟩, h4⟩, h5⟩, h6⟩ := h
    have e := strB_of h1
    subst e
    obtain ⟨⟨⟨k1, k2⟩, k3⟩, k4⟩ := h4
    obtain ⟨k11, k12, hb⟩ := callB_of k1
    have k2 := of_decide_eq_true k2
    have k4 := of_decide_eq_true k4
    have ff := ok.prm.call hb f (.kw sg) k11 k12 (fun n z => nomatch z)
    have pl := plains_of h5
    have pa := ih _ h5
    have pk := iw _ h6
    obtain ⟨w1, w2, w3⟩ := kws_of (env := X.env) (pos := p) k3
    have kl : ws.length = (sg.ks.map Str.ofString).length := by rw [List.length_map]; exact k4.symm
    rw [kl] at pk
    refine both ?_ fun _ => rfl
    cases as with
    | nil =>
      have z : es = [] := List.length_eq_zero_iff.mp pl.2
      subst z
      have ff : FnF X.prog X.w X.K X.mg X.base j f 0 (sg.ks.map Str.ofString) (CS.kw sg).arr (c.call f) := by rw [show (0 : Nat) = sg.n from k2.symm]; exact ff
      exact ge_call0 ff (ok.room hb) ok.tk (ok.gl h2) (dbg_of h3).1 pk w1 w2 w3
    | cons a as =>
      have h7 : plainE a = true ∧ as.all plainE = true := by have := pl.1; rw [List.all_cons, Bool.and_eq_true] at this; exact this
      have ff : FnF X.prog X.w X.K X.mg X.base j f es.length (sg.ks.map Str.ofString) (CS.kw sg).arr (c.call f) := by rw [← k2]; exact ff
      exact ge_call ff (ok.room hb) ok.tk (ok.gl h2) (dbg_of h3).1 pa pk w1 w2 w3 (star_cons h7.1) (star_plain h7.2)
  · cases h
/-- f(..), where an exception is handled -/
theorem ge_xcall {a0 : Addr} {f : String} {e : Expr} {es : List Expr} {n : Nat} {ws : WA0} {prom : Prom} {p pos : Pos} (fx : FnX X.prog X.w X.K X.mg X.base j a0 f n prom) (hr : L2H.RoomH j X.A) (hh : X.A.handled = some (.ref a0)) (tk : L2N.Takes X W) (hg : Gl X (Str.ofString f)) (hd : (Str.ofString f == ("__debug__" : Str)) = false)
    (ha : PA X (e :: es) (RdA X W n ws)) (he : starEach (e :: es) X.env = (false, eval e X.env) :: starEach es X.env) (hpl : (backTo pos (starEach es X.env)).any (·.1) = false) :
    PE X (.Call (.Name (Str.ofString f) p) (e :: es) [] pos) (RdE X W fun ρ m Q E => ws ρ m (fun ds m1 => prom ds m1 Q E) E) := by
  obtain ⟨a, hm, hki, run⟩ := fx.ex
  refine ⟨fun pins s σ H Q I ⟨ρ, m, F0, Q0, E0, A, h, gq, gx⟩ => ?_⟩
  refine wpAny_Call_Name_kw (ld_glob I hg hm ?_ hd)
  have args : RdA X W n ws σ H (fun vs H2 => ∃ ds m1 F1, Reps X.K X.mg F1 H2 ds vs ∧ ds.length = n ∧ Nx X.K X.mg m F0 H m1 F1 H2 ∧ prom ds m1 Q0 E0) :=
    ⟨ρ, m, F0, _, E0, A, h, fun ds m1 F1 vs H2 l1 q1 n1 r1 => ⟨ds, m1, F1, r1, l1, n1, q1⟩, gx⟩
  refine PySem.W.callWith_K (h₀ := X.base) I.ok.mod.kin hki (thn (ha.run pos pins s σ _ _ I args) fun us s2 ⟨vs, H2, I2, r, ds, m1, F1, rr, l1, n1, q2⟩ => ⟨I2.kIn, ?_⟩) he hpl
  exact run X W _ _ _ _ _ us vs rfl rfl rfl rfl rfl hr hh tk I2 r ⟨ds, m1, F1, Q0, E0, rr, l1, n1.rel, q2, gq.nx n1, gx.nx n1⟩
theorem sc_xcall (ok : OkE X W c fs j N sc) {f : String} {es : List Ex} {e : Expr} (ih : ∀ as, ckEs c.ks N fs es sc as = true → PA X as (RdA X W es.length (wpEs c es))) (h : ckE c.ks N fs (.xcall f es) sc e = true) :
    PE X e (RdE X W (wpE c (.xcall f es))) ∧ L2.PT X e (RdT X W (wB (wpE c (.xcall f es)))) := by
  unfold ckE at h
  split at h
  · rename_i x p2 a as p
    simp only [Bool.and_eq_true] at h
    obtain ⟨⟨⟨⟨h1, h2⟩, h3⟩, h4, hb⟩, h5⟩ := h
    have e := strB_of h1
    subst e
    obtain ⟨a0, ea, hh, ec⟩ := ok.hot hb
    have fx := ok.prm.callh f es.length (of_decide_eq_true h4) a0
    rw [← ec] at fx
    have pl := (plains_of h5).1
    have h6 : plainE a = true ∧ as.all plainE = true := by rw [List.all_cons, Bool.and_eq_true] at pl; exact pl
    exact both (ge_xcall fx ok.rmh hh ok.tk (ok.gl h2) (dbg_of h3).1 (ih _ h5) (star_cons h6.1) (star_plain h6.2)) fun _ => rfl
  · cases h
theorem sc_isx (ok : OkE X W c fs j N sc) {a : Ex} {g : String} {e : Expr} (ih : ∀ e, ckE c.ks N fs a sc e = true → PE X e (RdE X W (wpE c a))) (h : ckE c.ks N fs (.isx a g) sc e = true) :
    PE X e (RdE X W (wpE c (.isx a g))) ∧ L2.PT X e (RdT X W (wB (wpE c (.isx a g)))) := by
  unfold ckE at h
  split at h
  · rename_i x p1 b y p2 p
    simp only [Bool.and_eq_true] at h
    obtain ⟨⟨⟨⟨⟨⟨⟨h1, h2⟩, h3⟩, h4⟩, h5⟩, h6⟩, h7⟩, h8⟩ := h
    have e := strB_of h1
    subst e
    have e := strB_of h3
    subst e
    obtain ⟨b0, e0⟩ := Option.isSome_iff_exists.mp h6
    exact both (ge_isx ok.prm.sub ⟨g, b0, e0⟩ (ok.gl h2) (ok.prm.blt "isinstance" (by decide)) (ok.gl h4) (dbg_of h5).1 (ih _ h8) (star_cons h7)) fun _ => rfl
  · cases h
theorem sc_xat (ok : OkE X W c fs j N sc) {o : Ex} {f : String} {e : Expr} (ih : ∀ e, ckE c.ks N fs o sc e = true → PE X e (RdE X W (wpE c o))) (h : ckE c.ks N fs (.xat o f) sc e = true) :
    PE X e (RdE X W (wpE c (.xat o f))) ∧ L2.PT X e (RdT X W (wB (wpE c (.xat o f)))) := by
  unfold ckE at h
  split at h
  · rename_i ob x p
    simp only [Bool.and_eq_true] at h
    obtain ⟨⟨h1, h2⟩, h3⟩ := h
    have e := strB_of h1
    subst e
    exact both (ge_xat (cf := fun t => c.xfld t f) (fun t C hm hc => ok.prm.xfld t f C hm hc) (ih _ h3) (base_plain h2)) fun _ => rfl
  · cases h
theorem sc_cv (ok : OkE X W c fs j N sc) {i : Nat} {gs : List String} {es : List Ex} {e : Expr} (ih : ∀ as, ckEs c.ks N fs es sc as = true → PA X as (RdA X W es.length (wpEs c es))) (h : ckE c.ks N fs (.cv i gs es) sc e = true) :
    PE X e (RdE X W (wpE c (.cv i gs es))) ∧ L2.PT X e (RdT X W (wB (wpE c (.cv i gs es)))) := by
  unfold ckE at h
  split at h
  · rename_i x p2 a as p
    simp only [Bool.and_eq_true, List.all_eq_true] at h
    obtain ⟨⟨⟨⟨h1, h2⟩, h3⟩, h4⟩, h5⟩ := h
    obtain ⟨d1, d2⟩ := dbg_of h3
    have pl := (plains_of h5).1
    have h6 : plainE a = true ∧ as.all plainE = true := by rw [List.all_cons, Bool.and_eq_true] at pl; exact pl
    have ff : ∀ g ∈ gs, hotB fs = false ∧ FnF X.prog X.w X.K X.mg X.base j g es.length [] (fun ds _ => ds) (c.call g) := fun g hg => by
      obtain ⟨k1, k2, hb⟩ := callB_of (h4 g hg)
      exact ⟨hb, ok.prm.call hb g (.pl es.length) k1 k2 (fun n z => nomatch z)⟩
    cases gs with
    | nil =>
      have p0 : PE X (.Call (.Name x p2) (a :: as) [] p) (RdE X W (wpE c (.cv i [] es))) := ⟨fun pins s σ H Q I ⟨ρ, m, F0, Q0, E0, A, h, gq, gx⟩ => by
        obtain ⟨d, e1, h⟩ := getw_iff.mp h
        obtain ⟨f, e3, hf, h⟩ := getw_iff.mp h
        cases hf⟩
      exact both p0 fun _ => rfl
    | cons g0 gs =>
      have hb := (ff g0 (List.mem_cons_self ..)).1
      exact both (ge_cv (fun g hg => (ff g hg).2) (ok.room hb) ok.tk (by rw [ok.hN]; exact of_decide_eq_true h1) (by rw [ok.sc]; exact visB_of h2) d1 d2 (ih _ h5) (star_cons h6.1) (star_plain h6.2)) fun _ => rfl
  · cases h
end
end PT
end
section
set_option linter.all false
set_option maxRecDepth 100000
set_option maxHeartbeats 4000000
/-! PtM2: soundness of the check of methods. -/
namespace PT
open PySem PySem.Spec PyProof.Rows L2

section
variable {X : Cx} {W : WX} {c : Cfg} {fs : List (String × CS)} {j : Nat} {N : List Str} {sc : Scope}
theorem mth_tree {o : Expr} {m : Str} {ap p : Pos} {as : List Expr} {env : Env} (hb : attributeBase o m env (eval o env) = eval o env) (hf : methodCallForm (as.length + ([] : List Keyword).length) (backTo p (starEach as env)) (backToKw p (keywordEach [] env)) = true) (hp : (ap.endLine == p.line) = true) :
    eval (.Call (.Attribute o m ap) as [] p) env = (do
      let ov ← eval o env
      standAt ap.atName
      let (f, first) ← holding [ov] (getMethod ov m (do return (← importBound o env).getD true))
      callWith p f first (backTo p (starEach as env)) (backToKw p (keywordEach [] env))) := by
  refine mcall_of hb fun ov => ?_
  unfold methodCall methodCallPos calleeOf
  rw [hf, hp]
  simp
theorem form_ok {env : Env} {p : Pos} {as : List Expr} (h : as.all plainE = true) (hl : as.length < 28) : methodCallForm (as.length + ([] : List Keyword).length) (backTo p (starEach as env)) (backToKw p (keywordEach [] env)) = true := by
  unfold methodCallForm
  rw [star_all h]
  simp only [keywordEach, backToKw, List.map_nil, List.all_nil, List.length_nil, List.isEmpty_nil, if_true, Bool.true_and, decide_eq_true_eq]
  omega
theorem sc_mth (ok : OkE X W c fs j N sc) {t f : String} {o : Ex} {es : List Ex} {e : Expr} (io : ∀ e, ckE c.ks N fs o sc e = true → PE X e (RdE X W (wpE c o))) (ih : ∀ as, ckEs c.ks N fs es sc as = true → PA X as (RdA X W es.length (wpEs c es))) (h : ckE c.ks N fs (.mth t f o es) sc e = true) :
    PE X e (RdE X W (wpE c (.mth t f o es))) ∧ L2.PT X e (RdT X W (wB (wpE c (.mth t f o es)))) := by
  unfold ckE at h
  split at h
  · rename_i ob x ap as p
    simp only [Bool.and_eq_true] at h
    obtain ⟨⟨⟨⟨⟨⟨h1, h2⟩, h3⟩, h4⟩, h50, h51⟩, h8⟩, h9⟩ := h
    have e := strB_of h1
    subst e
    have h4 := of_decide_eq_true h4
    have hb : hotB fs = false := by simpa using h51
    have fm := ok.pri.mth hb t f es.length (of_decide_eq_true h50)
    have po := io _ h8
    have pa := ih _ h9
    have pl := plains_of h9
    have tr := mth_tree (m := Str.ofString f) (env := X.env) (base_plain h2) (form_ok (env := X.env) (p := p) pl.1 h4) h3
    refine both ?_ fun _ => rfl
    cases as with
    | nil =>
      have z : es = [] := List.length_eq_zero_iff.mp pl.2
      subst z
      exact ge_mth0 fm (ok.room hb) ok.tk po tr
    | cons a as =>
      have h10 : plainE a = true ∧ as.all plainE = true := by have := pl.1; rw [List.all_cons, Bool.and_eq_true] at this; exact this
      exact ge_mth fm (ok.room hb) ok.tk po pa (star_cons h10.1) (star_plain h10.2) tr
  · cases h
end
end PT
end
section
set_option linter.all false
set_option maxRecDepth 100000
set_option maxHeartbeats 4000000
/-! PtXF: a comprehension over a range, where an exception is handled. -/
namespace PT
open PySem PySem.Spec PyProof.Rows L2 HotX

structure TurnX (P : Program) (w : World) (K : PySem.W.Frag) (tg : Expr) (J : It) (fp : List Addr) (it : Addr) (tn : Nat → Heap → Prop) : Prop where
  mem : it ∈ fp
  obj : ∀ i h, tn i h → ∀ b ∈ fp, ∃ o, h.get? b = some o ∧ ∀ v, o.data ≠ .cell v
  keep : ∀ i h h', tn i h → (∀ b ∈ fp, ∀ o, h.get? b = some o → h'.get? b = some o) → tn i h'
  item : ∀ (X : Cx), X.prog = P → X.w = w → X.K = K → ∀ (i : Nat) (pins : List (Addr × Obj)) (s : Shared) (σ : L2.St) (H : Hp) (E : Value → Shared → Prop), Inv X pins σ H s → (∀ b ∈ fp, FpOk X pins H b) → tn i s.heap → J.go i H →
    wpAny (model P w) X.A (pyNext (.ref it)) (fun r s1 => ∃ u, r = some u ∧
      wpAny (model P w) X.A (letOwnedTupleGo tg (.ref it) u) (fun _ s2 => ∃ x H', Inv X pins σ H' s2 ∧ RelV x u ∧ J.yld i H x H' ∧ tn (i + 1) s2.heap ∧ ∀ b ∈ fp, H' b = none) E s1) E s
  done : ∀ (X : Cx), X.prog = P → X.w = w → X.K = K → ∀ (x1 : Addr) (i : Nat) (pins : List (Addr × Obj)) (s : Shared) (σ : L2.St) (H : Hp) (E : Value → Shared → Prop), Inv X pins σ H s → (∀ b ∈ fp, FpOk X pins H b) → tn i s.heap → J.stop i H → HotAt X.A x1 s.heap →
    wpAny (model P w) X.A (pyNext (.ref it)) (fun r s1 => r = none ∧ Inv X pins σ H s1) E s
  self : ∀ (A : Around) (i : Nat) (s : Shared) (Q : Value → Shared → Prop) (E : Value → Shared → Prop), tn i s.heap → Q (.ref it) s → wpAny (model P w) A (pyIter (.ref it)) Q E s
theorem turn_rangeX {P : Program} {w : World} {K : PySem.W.Frag} {tg : Expr} (it : Addr) (lo : Int) (n : Nat) : TurnX P w K tg (Itr lo n) [it] it (fun i h => IsRangeIter h it (lo + (i : Nat) * 1) ((n : Int) - (i : Nat)) 1) where
  mem := by simp
  obj := fun i h st b hb => by
    have e : b = it := by simpa using hb
    subst e
    exact ⟨_, st, fun v z => by
      have z' : Data.fields _ = Data.cell v := z
      cases z'⟩
  keep := fun i h h' st k => k it (by simp) _ st
  item := by
    intro X hP hw hK i pins s σ H E I hf st hg
    subst hP hw hK
    obtain ⟨f0, f1, f2, f3, f4, f5⟩ := hf it (by simp)
    have hlt : i < n := hg
    refine wpAny_pyNext_range_item st (by omega) fun h' st' sb => ?_
    have st2 : IsRangeIter h' it (lo + ((i + 1 : Nat) : Int) * 1) ((n : Int) - ((i + 1 : Nat) : Int)) 1 := by
      have e1 : lo + ((i : Nat) : Int) * 1 + 1 = lo + ((i + 1 : Nat) : Int) * 1 := by omega
      have e2 : (n : Int) - ((i : Nat) : Int) - 1 = (n : Int) - ((i + 1 : Nat) : Int) := by omega
      rw [← e1, ← e2]
      exact st'
    have I1 : Inv X pins σ H { s with heap := h', toks := s.toks + 1 } := I.turned (fun b o hb e => (sb.2 b hb).trans e) f0 f1 f3 f4 f5
    refine ⟨_, rfl, go_of (s := { s with heap := h', toks := s.toks + 1 }) (n := "range_iterator") st2 rfl rfl (by decide) ⟨.int (lo + i), H, I1, ⟨s.toks, ?_⟩, ⟨rfl, rfl⟩, st2, fun b hb => (hf b hb).1⟩⟩
    rw [Int.mul_one]
  done := by
    intro X hP hw hK x1 i pins s σ H E I hf st hg hot
    subst hP hw hK
    obtain ⟨f0, f1, f2, f3, f4, f5⟩ := hf it (by simp)
    exact pyNext_range_end_hot hot st (by have : n ≤ i := hg; omega) fun h' eb => ⟨rfl, I.turned (t' := s.toks) (fun b o _ e => eb b o e) f0 f1 f3 f4 f5⟩
  self := fun _ _ _ _ _ st h => wpAny_pyIter_rangeiter st h
def PIEX (X : Cx) (pins : List (Addr × Obj)) (σ : L2.St) (tg : Expr) (R : It → Hp → Prop) (itv : Value) (s2 : Shared) : Prop :=
  ∃ (it : Addr) (fp : List Addr) (tn : Nat → Heap → Prop) (J : It) (H' : Hp), itv = .ref it ∧ Inv X pins σ H' s2 ∧ TurnX X.prog X.w X.K tg J fp it tn ∧ tn 0 s2.heap ∧ (∀ b ∈ fp, FpOk X pins H' b) ∧ R J H'
structure PIX (X : Cx) (tg iter : Expr) (wi : TI) : Prop where
  run : ∀ (pins : List (Addr × Obj)) (s : Shared) (σ : L2.St) (H : Hp) (R : It → Hp → Prop), Inv X pins σ H s → wi σ H R →
    wpAny (model X.prog X.w) X.A (eval iter X.env) (fun v s1 => wpAny (model X.prog X.w) X.A (pyIter v) (PIEX X pins σ tg R) X.xe s1) X.xe s
section
variable {X : Cx} {tg : Expr}
theorem range_itX {pins : List (Addr × Obj)} {σ : L2.St} {H : Hp} {s : Shared} {R : It → Hp → Prop} {E : Value → Shared → Prop} {lo hi : Int} {t u v : Tok} {tk : Nat} (I : Inv X pins σ H s) (h1 : -(2 ^ 62) ≤ lo) (h2 : lo < 2 ^ 62) (h3 : -(2 ^ 62) ≤ hi) (h4 : hi < 2 ^ 62)
    (q : R (Itr lo (hi - lo).toNat) H) : wpAny (model X.prog X.w) X.A (pyIter (.ref s.heap.objs.size)) (PIEX X pins σ tg R) E { s with heap := s.heap.push { cls := .type "range", data := .fields #[.int lo t, .int hi u, .int 1 v] }, toks := tk } := by
  refine wpAny_pyIter_range (IsRange.new ..) (small_one h1 h2 h3 h4) ?_
  have I1 : Inv X pins σ H { s with heap := s.heap.push { cls := .type "range", data := .fields #[.int lo t, .int hi u, .int 1 v] }, toks := tk } := I.kept fun b o e => Heap.get?_push_of_some _ e
  refine ⟨(s.heap.push { cls := .type "range", data := .fields #[.int lo t, .int hi u, .int 1 v] }).objs.size, [(s.heap.push { cls := .type "range", data := .fields #[.int lo t, .int hi u, .int 1 v] }).objs.size], _, _, H, rfl,
    I1.kept (t' := tk) fun b o e => Heap.get?_push_of_some _ e, turn_rangeX _ lo (hi - lo).toNat, ?_, fun b hb => ?_, q⟩
  · have e1 : lo + ((0 : Nat) : Int) * 1 = lo := by simp
    have e2 : (((hi - lo).toNat : Nat) : Int) - ((0 : Nat) : Int) = Builtin.Range.rangeSize lo hi 1 := by rw [rangeSize_one]; split <;> omega
    show IsRangeIter _ _ (lo + ((0 : Nat) : Int) * 1) ((((hi - lo).toNat : Nat) : Int) - ((0 : Nat) : Int)) 1
    rw [e1, e2]
    exact Heap.get?_push_size _ rfl
  · have e : b = (s.heap.push { cls := .type "range", data := .fields #[.int lo t, .int hi u, .int 1 v] }).objs.size := by simpa using hb
    subst e
    exact I1.fpOk (Nat.le_refl _) (I1.hok.fresh (Nat.le_refl _))
theorem pi_range1X {a : Expr} {ta : TA} {p pos : Pos} (hg : Gl X "range") (hm : X.mg "range" = none) (ha : PA X [a] ta) (hs : starEach [a] X.env = [(false, eval a X.env)] := by rfl) : PIX X tg (.Call (.Name "range" p) [a] [] pos) (iRng1 ta) := by
  refine ⟨fun pins s σ H R I h => ?_⟩
  refine Call_ (ld_blt I hg hm boot_range (PyProof.Rows.callWith_type1 (thn (ha.run pos pins s σ H _ I h) fun us s1 ⟨vs, H1, I1, r1, q1⟩ => ?_) hs rfl))
  obtain ⟨j, e, q1, q2, q⟩ := q1
  subst e
  cases r1 with
  | cons r rr =>
    cases rr
    obtain ⟨t, rfl⟩ := r
    exact call_range_1 (range_itX I1 (by omega) (by omega) q1 q2 (by simpa using q))
end
section
variable {X : Cx}
/-- as tLc; at the end the handled exception stands at a0 -/
def tLcX (a0 : Addr) (wi : TI) (g : TG) (tt : TT) (te : TE) (vs : List Nat) : TE := fun σ H Q => wi σ H fun J H1 => ∀ D, H1 D = none → ∃ W : Nat → Nat → Hp → Prop, (∃ m, W 0 m (upd H1 D (.lst []))) ∧ ∀ i m H, W i m H →
  (J.stop i H ∧ (∃ (oe : Obj) (ws : Array Value), H a0 = some (exq a0 oe) ∧ oe.data = .fields ws ∧ ws[2]? = some .none) ∧ Q (.ref D) H) ∨ (J.go i H ∧ ∃ Nx : Hp → Prop, (∀ H', Nx H' → ∃ m', m' < m ∧ W (i + 1) m' H') ∧ ∀ x H', J.yld i H x H' → g x (wipe σ vs) H' fun σ2 H2 => wipe σ2 vs = wipe σ vs ∧ tt σ2 H2 fun b H3 =>
    if b = true then te σ2 H3 fun y H4 => ∃ acc, H4 D = some (.lst acc) ∧ acc.length < sizeLine ∧ Nx (upd H4 D (.lst (acc ++ [y]))) else Nx H3)
theorem lc_coreX {pins : List (Addr × Obj)} {s : Shared} {σ : L2.St} {H : Hp} {Q : VK} {elt tg iter : Expr} {ifs : List Expr} {scope : Scope} {own : List (Str × Nat)} {pos pos' : Pos} {wi : TI} {g : TG} {tt : TT} {te : TE} {use : Option (Value → Sem Unit)} {Qf : Value → Shared → Prop}
    {a0 : Addr} (hc : X.A.handled = some (.ref a0)) (hN : X.N.Nodup) (I : Inv X pins σ H s) (hi : PIX X tg iter wi) (ok : BlkOk X.N X.env.scope scope own)
    (hg : ∀ (s : Shared) (H : Hp) (C : Addr) (cl : List (Str × Addr)) (fp : List Addr), PG (X.blk s H scope (compEnvC scope cl C X.env) fp) tg g) (ht : ∀ (s : Shared) (H : Hp) (C : Addr) (cl : List (Str × Addr)) (fp : List Addr), PTs (X.blk s H scope (compEnvC scope cl C X.env) fp) ifs tt)
    (he : ∀ (s : Shared) (H : Hp) (C : Addr) (cl : List (Str × Addr)) (fp : List Addr), PE (X.blk s H scope (compEnvC scope cl C X.env) fp) elt te) (hs : ∀ x, foldedSetIterable iter X.env x = pure x)
    (h : tLcX a0 wi g tt te (own.map (·.2)) σ H Q)
    (hRR : ∀ D C s' m H', Inv X pins σ H' s' → Q (.ref D) H' → s'.heap.Ns C m → FpOk X pins H' C → compPost (model X.prog X.w) X.A X.xe use Qf (.ref D) C (.ok .next) s') :
    wpAny (model X.prog X.w) X.A (comprehension (.ListComp elt [⟨tg, iter, ifs, 0⟩] scope pos) scope X.env pos' (newList []) false (eval iter X.env) use) Qf X.xe s := by
  have hfree : ∀ y ∈ scope.names, y.2 = .free → ∃ c, X.env.cells.lookup y.1 = some c := fun y hy e => by
    rcases ok.free y hy e with k | k
    · exact I.ok.has _ (.inl k)
    · exact I.ok.has _ (.inr k)
  refine wpAny_comprehension_free (use := use) rfl hs (closure_ok hfree) ok.kind (fun y hy e => by rw [ok.uniq y hy, e])
    (thn (hi.run pins s σ H _ I h) fun xv s1 hx => thn hx fun itv s2 h2 => ?_)
  obtain ⟨it, fp, tn, J, H2, e, I2, T, st2, f2, q⟩ := h2
  subst e
  refine wpAny_newObj_type (newEnv_comp ?_) (by show 0 ≤ sizeLine; decide)
  generalize hD : s2.heap.objs.size = D
  have hDn : H2 D = none := I2.hok.fresh (Nat.le_of_eq hD)
  obtain ⟨W, ⟨m0, w0⟩, turn⟩ := q D hDn
  -- the new list
  generalize hs3 : ({ s2 with heap := s2.heap.push { cls := .type "list", data := .seq ([] : List Value).toArray } } : Shared) = s3
  have I3 : Inv X pins σ (upd H2 D (.lst [])) s3 := by
    rw [← hs3]
    refine I2.laid (t' := s2.toks) (fun b o e => Heap.get?_push_of_some _ e) (Nat.le_of_eq hD) ⟨Nat.zero_le _, [], 0, .nil, ?_⟩
    rw [← hD]
    exact Heap.get?_push_size _ rfl
  have h3 : s3.heap = s2.heap.push { cls := .type "list", data := .seq ([] : List Value).toArray } := by rw [← hs3]
  have sz : ∀ b ∈ fp, b < s2.heap.objs.size := fun b hb => by
    obtain ⟨o, e, _⟩ := T.obj _ _ st2 b hb
    exact Heap.lt_size e
  have f3 : ∀ b ∈ fp, FpOk X pins (upd H2 D (.lst [])) b ∧ b < s3.heap.objs.size := fun b hb => by
    have hlt := sz b hb
    refine ⟨⟨?_, (f2 b hb).2⟩, by rw [h3, Heap.size_push]; exact Nat.lt_succ_of_lt hlt⟩
    rw [upd_ne (by rw [← hD]; exact Nat.ne_of_lt hlt)]
    exact (f2 b hb).1
  have st3 : tn 0 s3.heap := T.keep _ _ _ st2 fun b _ o e => by rw [h3]; exact Heap.get?_push_of_some _ e
  have I4 := block_start I3 ok hN f3
  have pg := hg s3 (upd H2 D (.lst [])) s3.heap.objs.size (cellsFrom (s3.heap.objs.size + 1) scope.names (cloFrom X.env.cells scope.names [])) fp
  have pt := ht s3 (upd H2 D (.lst [])) s3.heap.objs.size (cellsFrom (s3.heap.objs.size + 1) scope.names (cloFrom X.env.cells scope.names [])) fp
  have pe := he s3 (upd H2 D (.lst [])) s3.heap.objs.size (cellsFrom (s3.heap.objs.size + 1) scope.names (cloFrom X.env.cells scope.names [])) fp
  show codeAny _ _ (.compStart (.ListComp elt [⟨tg, iter, ifs, 0⟩] scope pos) 0 (.ref it) (.ref D) (compEnvC scope (cellsFrom (s3.heap.objs.size + 1) scope.names (cloFrom X.env.cells scope.names [])) s3.heap.objs.size X.env)) (compPost (model X.prog X.w) X.A X.xe use Qf (.ref D) s3.heap.objs.size) { s3 with heap := pushCells (s3.heap.push { cls := .type "dict", data := .dict #[] }) scope.names }
  have nfp : ∀ b ∈ fp, (upd H2 D (.lst [])) b = none := fun b hb => (f3 b hb).1.1
  generalize hce : compEnvC scope (cellsFrom (s3.heap.objs.size + 1) scope.names (cloFrom X.env.cells scope.names [])) s3.heap.objs.size X.env = ce at I4 pg pt pe ⊢
  have cL : ce.locals = s3.heap.objs.size := by subst hce; rfl
  generalize hH3 : upd H2 D (.lst []) = H3 at I3 I4 pg pt pe w0 nfp f3
  generalize hs4 : ({ s3 with heap := pushCells (s3.heap.push { cls := .type "dict", data := .dict #[] }) scope.names } : Shared) = s4 at I4 ⊢
  have st4 : tn 0 s4.heap := T.keep _ _ _ st3 fun b _ o e => by rw [← hs4]; exact pushCells_keeps _ _ _ _ (Heap.get?_push_of_some _ e)
  have stat : ∀ {σ' : L2.St} {H' : Hp} {s' : Shared}, Inv (X.blk s3 H3 scope ce fp) [] σ' H' s' → (∀ b ∈ fp, H' b = none) → ∀ b ∈ fp, FpOk (X.blk s3 H3 scope ce fp) [] H' b := fun {σ' H' s'} I' hn b hb =>
    ⟨hn b hb, (I'.ok.exf b hb).1, I'.ok.exfs b hb, .inl hb, fun x c e => (I'.ok.exf b hb).2 x c e, fun p hp => absurd (show p ∈ ([] : List (Addr × Obj)) ++ [] from hp) (by simp)⟩
  have loop : codeAny (model X.prog X.w) X.A (.compLoop (.ListComp elt [⟨tg, iter, ifs, 0⟩] scope pos) 0 (.ref it) (.ref D) ce) (compPost (model X.prog X.w) X.A X.xe use Qf (.ref D) s3.heap.objs.size) s4 := by
    refine compLoop_any (fun n s' => ∃ i H', Inv (X.blk s3 H3 scope ce fp) [] (wipe σ (own.map (·.2))) H' s' ∧ tn i s'.heap ∧ (∀ b ∈ fp, H' b = none) ∧ W i n H') ?_ m0 ⟨0, H3, I4, st4, nfp, w0⟩
    rintro n s5 ⟨i, H5, I5, st5, n5, w5⟩
    rcases turn i n H5 w5 with ⟨stop, ⟨oe, ws, e1, e2, e3⟩, qq⟩ | ⟨go, Nx, hNx, step⟩
    · have td := T.done (X.blk s3 H3 scope ce fp) rfl rfl rfl a0 i [] s5 _ H5 (fun _ _ => False) I5 (stat I5 n5) st5 stop ⟨hc, oe, ws, (I5.hok a0 _ e1).1, e2, e3⟩
      refine thnF td fun r s6 ⟨hr, I6⟩ => ?_
      subst hr
      -- back in the def's context
      have I7 : Inv X pins σ H5 s6 := I3.call' (ch := fp) I6.os I6.base I6.hok I6.bare fun b hb => ⟨(f3 b hb).1.2.2.2.1, (f3 b hb).1.2.1, (f3 b hb).1.2.2.2.2.1, (f3 b hb).1.2.2.2.2.2⟩
      have nC : H5 s3.heap.objs.size = none := by
        have z : H5 ce.locals = none := I6.free
        rw [cL] at z
        exact z
      obtain ⟨m, hn, _⟩ := I6.loc
      have hn : s6.heap.Ns ce.locals m := hn
      rw [cL] at hn
      exact hRR D s3.heap.objs.size s6 m H5 I7 qq hn (I3.fpOk (Nat.le_refl _) nC)
    · have ti := T.item (X.blk s3 H3 scope ce fp) rfl rfl rfl i [] s5 _ H5 (fun _ _ => False) I5 (stat I5 n5) st5 go
      refine thnF ti fun r s6 ⟨u, hr, h6⟩ => ?_
      subst hr
      refine thnF h6 fun _ s7 ⟨x, H7, I7, r7, y7, st7, n7⟩ => ?_
      have I7' := I7.pinned (stat I7 n7) (T.obj _ _ st7)
      refine thnF (pg.run _ s7 _ H7 x u _ I7' r7 (step x H7 y7)) fun _ s8 ⟨σ8, H8, I8, hw8, q8⟩ => ?_
      refine thnF (pt.run _ s8 σ8 H8 _ I8 q8) fun b s9 ⟨H9, I9, q9⟩ => ?_
      -- the turn's end
      have fin : ∀ {s' : Shared} {H' : Hp}, Inv (X.blk s3 H3 scope ce fp) ([] ++ pinsAt fp s7.heap) σ8 H' s' → Nx H' → ∃ m, m < n ∧ ∃ i H', Inv (X.blk s3 H3 scope ce fp) [] (wipe σ (own.map (·.2))) H' s' ∧ tn i s'.heap ∧ (∀ b ∈ fp, H' b = none) ∧ W i m H' := fun {s' H'} I' nx => by
        obtain ⟨m', hm, w'⟩ := hNx H' nx
        have pin' : ∀ b ∈ fp, ∀ o, s7.heap.get? b = some o → s'.heap.get? b = some o ∧ H' b = none := fun b hb o e =>
          let z := I'.pin (b, o) (List.mem_append_right _ (List.mem_append_right _ (mem_pinsAt hb e)))
          ⟨z.1, z.2.1⟩
        have hl : (wipe σ (own.map (·.2))).length = σ8.length := by rw [← hw8, wipe_length]
        refine ⟨m', hm, i + 1, H', (I'.unpinned (pins := [])).weak hl (fun j v e => ?_), T.keep _ _ _ st7 fun b hb o e => (pin' b hb o e).1, fun b hb => ?_, w'⟩
        · rw [← hw8] at e
          exact (wipe_some e).1
        · obtain ⟨o, e, _⟩ := T.obj _ _ st7 b hb
          exact (pin' b hb o e).2
      cases b with
      | false =>
        simp only [Bool.false_eq_true, if_false] at q9 ⊢
        exact fin I9 q9
      | true =>
        simp only [if_true] at q9 ⊢
        refine thnF (pe.run _ s9 σ8 H9 _ I9 q9) fun z s10 ⟨yv, H10, I10, r10, acc, hD10, hz10, nx⟩ => ?_
        exact app_ok (X := X.blk s3 H3 scope ce fp) I10 hD10 hz10 r10 fun s11 I11 => fin I11 nx
  exact codeAny_compStart_list loop (T.self X.A 0 _ _ _ st4 loop)
theorem pe_lcX {a0 : Addr} {elt tg iter : Expr} {ifs : List Expr} {scope : Scope} {own : List (Str × Nat)} {pos : Pos} {wi : TI} {g : TG} {tt : TT} {te : TE} (hc : X.A.handled = some (.ref a0)) (hN : X.N.Nodup) (hi : PIX X tg iter wi) (ok : BlkOk X.N X.env.scope scope own)
    (hg : ∀ (s : Shared) (H : Hp) (C : Addr) (cl : List (Str × Addr)) (fp : List Addr), PG (X.blk s H scope (compEnvC scope cl C X.env) fp) tg g) (ht : ∀ (s : Shared) (H : Hp) (C : Addr) (cl : List (Str × Addr)) (fp : List Addr), PTs (X.blk s H scope (compEnvC scope cl C X.env) fp) ifs tt)
    (he : ∀ (s : Shared) (H : Hp) (C : Addr) (cl : List (Str × Addr)) (fp : List Addr), PE (X.blk s H scope (compEnvC scope cl C X.env) fp) elt te) (hs : ∀ x, foldedSetIterable iter X.env x = pure x) :
    PE X (.ListComp elt [⟨tg, iter, ifs, 0⟩] scope pos) (tLcX a0 wi g tt te (own.map (·.2))) := by
  refine ⟨fun pins s σ H Q I h => ?_⟩
  rw [eval_ListComp]
  refine lc_coreX hc hN I hi ok hg ht he hs h fun D C s' m H' I' q hn f => ⟨m, hn, fun h'' sb => ?_⟩
  obtain ⟨f0, f1, f2, f3, f4, f5⟩ := f
  exact ⟨.ref D, H', I'.turned (t' := s'.toks) (fun b o hb e => (sb.2 b hb).trans e) f0 f1 f3 f4 f5, rfl, q⟩
end
end PT
end
section
set_option linter.all false
set_option maxRecDepth 100000
set_option maxHeartbeats 4000000
/-! PtXG: .. by readings. -/
namespace PT
open PySem PySem.Spec PyProof.Rows L2

section
variable {X : Cx} {W : WX} {wi : WI0} {t : Tg} {wt : WT0} {we : WE0} {own : List Nat} {hot : Env0 → Prop}
theorem lc_readX {mu : Bool} {a0 : Nat} (hx : ∀ ρ m F σ H, At X ρ m F σ H → hot ρ → F a0 ∧ ∃ (oe : Obj) (ws : Array Value), H a0 = some (exq a0 oe) ∧ oe.data = .fields ws ∧ ws[2]? = some .none) (ht : tgIn own t = true) {σ : L2.St} {H : Hp} {Q : VK} (h : RdE X W (fun ρ m Q E => hot ρ ∧ wi ρ m (fun xs gd m1 => compW gd (stepD t wt we own ρ) xs [] m1 (muQ mu Q)) E) σ H Q) :
    tLcX a0 (RdI X W wi) (RdG X t) (RdT X W0 wt) (RdE X W0 we) own σ H Q := by
  obtain ⟨ρ, m, F, Q0, E0, A, ⟨hh, h⟩, g, gx⟩ := h
  obtain ⟨fa, oe, ows, e1, e2, e3⟩ := hx _ _ _ _ _ A hh
  refine ⟨ρ, m, F, _, E0, A, h, fun xs gd m1 F1 H1 J hI n1 wk Dd hD => ?_, gx⟩
  have ok : ∀ i H', (∃ acc accv m' F', Nx X.K X.mg m1 F1 H1 m' F' H' ∧ ¬ F' Dd ∧ m' Dd = none ∧ H' Dd = some (.lst accv) ∧ Reps X.K X.mg F' H' acc accv ∧ acc.length ≤ i ∧ compW gd (stepD t wt we own ρ) (xs.drop i) acc m' (muQ mu Q0)) →
      (∃ acc accv m' F', Nx X.K X.mg m1 F1 H1 m' F' H' ∧ ¬ F' Dd ∧ m' Dd = none ∧ H' Dd = some (.lst accv) ∧ Reps X.K X.mg F' H' acc accv ∧ acc.length ≤ i ∧ compW gd (stepD t wt we own ρ) (xs.drop i) acc m' (muQ mu Q0)) := fun _ _ z => z
  refine ⟨fun i k H' => k = xs.length - i ∧ i ≤ xs.length ∧ ∃ acc accv m' F', Nx X.K X.mg m1 F1 H1 m' F' H' ∧ ¬ F' Dd ∧ m' Dd = none ∧ H' Dd = some (.lst accv) ∧ Reps X.K X.mg F' H' acc accv ∧ acc.length ≤ i ∧ compW gd (stepD t wt we own ρ) (xs.drop i) acc m' (muQ mu Q0),
    ⟨xs.length, by simp, Nat.zero_le _, [], [], m1, delF F1 Dd, .hide n1.rel hD, fun z => z.1 rfl, n1.rel.free hD, upd_same, rfl, Nat.le_refl _, hI⟩, ?_⟩
  rintro i k H2 ⟨rfl, hi, acc, accv, m2, F2, n2, nf, nm, eD, rr, hl, q⟩
  by_cases hlt : i < xs.length
  · rw [List.drop_eq_getElem_cons hlt] at q
    obtain ⟨go, q⟩ := q
    obtain ⟨ρ3, e3, q⟩ := getw_iff.mp q
    refine .inr ⟨wk.goes i m2 F2 H2 hlt n2 go, fun H' => ∃ acc accv m' F', Nx X.K X.mg m1 F1 H1 m' F' H' ∧ ¬ F' Dd ∧ m' Dd = none ∧ H' Dd = some (.lst accv) ∧ Reps X.K X.mg F' H' acc accv ∧ acc.length ≤ i + 1 ∧ compW gd (stepD t wt we own ρ) (xs.drop (i + 1)) acc m' (muQ mu Q0),
      fun H' z => ⟨xs.length - (i + 1), by omega, rfl, hlt, z⟩, fun x H' y => ?_⟩
    obtain ⟨d, F3, ed, n3, rd⟩ := wk.yields i m2 F2 H2 x H' hlt n2 go y
    rw [List.getElem?_eq_getElem hlt] at ed
    cases ed
    refine ⟨xs[i], wipes ρ own, m2, F3, fun ρ' => ρ' = ρ3, rd, ⟨((A.nx (n1.trans (n2.trans n3))).env).wiped own, n3.rel⟩, by rw [e3]; exact rfl, fun ρ' σ' e A' hw => ⟨by rw [hw own ht, wipe_wipe], ?_⟩⟩
    subst e
    refine ⟨ρ', m2, F3, _, noX, A', q, fun b m4 F4 H4 q4 n4 => ?_, fun _ _ _ _ _ _ z => z.elim⟩
    have n24 := n3.trans n4
    cases b with
    | false =>
      obtain ⟨nf4, nm4, eD4⟩ := n24.kept _ _ nf nm eD
      exact ⟨acc, accv, m4, F4, n2.trans n24, nf4, nm4, eD4, Reps.ext n24.ext _ _ rr, Nat.le_succ_of_le hl, q4⟩
    | true =>
      refine ⟨ρ', m4, F4, _, noX, A'.nx n4, q4, fun z m5 F5 zv H5 q5 n5 r5 => ?_, fun _ _ _ _ _ _ z => z.elim⟩
      have n25 := n24.trans n5
      obtain ⟨nf5, nm5, eD5⟩ := n25.kept _ _ nf nm eD
      have rr5 := Reps.ext n25.ext _ _ rr
      have hls := wk.len
      refine ⟨accv, eD5, by rw [← rr.len]; omega, acc ++ [z], accv ++ [zv], m5, F5, (n2.trans n25).wrHid hD nf5 nm5, nf5, nm5, upd_same, Reps.ext (ext_hid nf5) _ _ (rr5.app (Reps.one r5)), by simp; omega, q5⟩
  · have e : i = xs.length := by omega
    subst e
    rw [List.drop_length] at q
    refine .inl ⟨wk.stops m2 F2 H2 n2 q.1, ⟨oe, ows, ((n1.trans n2).ext a0 _ fa e1 trivial).2, e2, e3⟩, ?_⟩
    have q2 := q.2
    cases mu with
    | false => exact g _ _ (addF F2 Dd) _ _ q2 (n1.trans (n2.unhide hD nm)) ⟨Dd, accv, rfl, .inl rfl, eD, Reps.ext ext_show _ _ rr, Nat.le_trans hl wk.len⟩
    | true => exact g _ _ F2 _ _ (q2 Dd nm) (n1.trans (n2.thaw hD nf nm eD rr (Nat.le_trans hl wk.len))) rfl
end
section
variable {X : Cx} {W : WX} {tg e : Expr} {ws : WA0}
theorem PIX.imp {tg e : Expr} {t t' : TI} (h : PIX X tg e t) (hi : ∀ σ H R, t' σ H R → t σ H R) : PIX X tg e t' := ⟨fun pins s σ H R I q => h.run pins s σ H R I (hi _ _ _ q)⟩
theorem gi_range1X {a : Expr} {p pos : Pos} (hg : Gl X "range") (hm : X.mg "range" = none) (ha : PA X [a] (RdA X W 1 ws)) (hs : starEach [a] X.env = [(false, eval a X.env)]) :
    PIX X tg (.Call (.Name "range" p) [a] [] pos) (RdI X W fun ρ m I E => ws ρ m (fun ds m1 => getw (itD m1 .range ds) fun ig => I ig.1 ig.2 m1) E) :=
  PIX.imp (pi_range1X hg hm ha hs) fun σ H R ⟨ρ, m, F, I0, E0, A, h, g, gx⟩ => by
    refine ⟨ρ, m, F, _, E0, A, h, fun ds m1 F1 vs H1 l1 q1 n1 r1 => ?_, gx⟩
    obtain ⟨ig, e1, q2⟩ := getw_iff.mp q1
    obtain ⟨d, rfl⟩ := List.length_eq_one_iff.mp l1
    obtain ⟨v, rfl, rv⟩ := r1.one'
    cases d with
    | int n =>
      cases rv
      simp only [itD] at e1
      split at e1
      · rename_i hb
        cases e1
        have sl : sizeLine = 16777216 := sizeLine_eq
        exact ⟨n, rfl, hb.2, by omega, g _ _ _ _ _ _ q2 n1 (wd_range n1.rel (by omega))⟩
      · cases e1
    | _ => cases e1
end
end PT
end
section
set_option linter.all false
set_option maxRecDepth 100000
set_option maxHeartbeats 4000000
/-! PtN: soundness of the check (comprehensions, the whole of expressions). -/
namespace PT
open PySem PySem.Spec PyProof.Rows L2

def wiOf (c : Cfg) (k : ItK) (es : List Ex) : WI0 := fun ρ m I E => wpEs c es ρ m (fun ds m1 => getw (itD m1 k ds) fun ig => I ig.1 ig.2 m1) E
section
variable {X : Cx} {W : WX} {c : Cfg} {fs : List (String × CS)} {j : Nat} {N : List Str} {sc : Scope}
theorem PTs.imp {es : List Expr} {t t' : TT} (h : PTs X es t) (hi : ∀ σ H Q, t' σ H Q → t σ H Q) : PTs X es t' := ⟨fun pins s σ H Q I q => h.run pins s σ H Q I (hi _ _ _ q)⟩
theorem so_pi (ok : OkE X W c fs j N sc) {k : ItK} {es : List Ex} {it t : Expr} (iA : ∀ as, ckEs c.ks N fs es sc as = true → PA X as (RdA X W es.length (wpEs c es))) (i1 : ∀ e, ckEs c.ks N fs es sc [e] = true → ∃ x, es = [x] ∧ PE X e (RdE X W (wpE c x)))
    (h : ckI (fun as => ckEs c.ks N fs es sc as) es.length k sc it t = true) : PI X t it (RdI X W (wiOf c k es)) := by
  unfold ckI at h
  split at h
  · rw [Bool.and_eq_true] at h
    obtain ⟨x, rfl, p⟩ := i1 _ h.2
    exact gi_val p
  · split at h
    · rename_i x p as pos
      simp only [Bool.and_eq_true] at h
      obtain ⟨⟨⟨h1, h2⟩, h3⟩, h4⟩ := h
      have e := strB_of h1
      subst e
      have pa := iA _ h4
      have pl := plains_of h4
      have hm : X.mg (Str.ofString "range") = none := ok.prm.blt "range" (by decide)
      rw [Bool.or_eq_true] at h3
      rcases h3 with h3 | h3
      · have h3 := of_decide_eq_true h3
        rw [h3] at pa
        obtain ⟨a, rfl⟩ := List.length_eq_one_iff.mp (pl.2.symm.trans h3)
        have q : plainE a = true := by simpa using pl.1
        exact gi_range1 (ok.gl h2) hm pa (star_cons q)
      · have h3 := of_decide_eq_true h3
        rw [h3] at pa
        obtain ⟨a, b, rfl⟩ : ∃ a b, as = [a, b] := by
          have z := pl.2.symm.trans h3
          match as, z with
          | [a, b], _ => exact ⟨a, b, rfl⟩
        have q : plainE a = true ∧ plainE b = true := by simpa using pl.1
        exact gi_range2 (ok.gl h2) hm pa (by rw [star_cons q.1, star_cons q.2]; rfl) (star_cons q.2)
    · cases h
  · split at h
    · rename_i x p as pos elts kk tpos
      simp only [Bool.and_eq_true] at h
      obtain ⟨⟨⟨h1, h2⟩, h3⟩, h4⟩ := h
      have e := strB_of h1
      subst e
      have pa := iA _ h4
      have pl := plains_of h4
      have h3 := of_decide_eq_true h3
      rw [h3] at pa
      obtain ⟨a, rfl⟩ := List.length_eq_one_iff.mp (pl.2.symm.trans h3)
      have q : plainE a = true := by simpa using pl.1
      exact gi_enum (ok.gl h2) (ok.prm.blt "enumerate" (by decide)) pa (star_cons q)
    · cases h
  · split at h
    · rename_i x p as pos elts kk tpos
      simp only [Bool.and_eq_true] at h
      obtain ⟨⟨⟨h1, h2⟩, h3⟩, h4⟩ := h
      have e := strB_of h1
      subst e
      have pa := iA _ h4
      have pl := plains_of h4
      have h3 := of_decide_eq_true h3
      rw [h3] at pa
      obtain ⟨a, b, rfl⟩ : ∃ a b, as = [a, b] := by
        have z := pl.2.symm.trans h3
        match as, z with
        | [a, b], _ => exact ⟨a, b, rfl⟩
      have q : plainE a = true ∧ plainE b = true := by simpa using pl.1
      exact gi_zip (ok.gl h2) (ok.prm.blt "zip" (by decide)) pa (star_cons q.1) (by rw [star_cons q.2]; rfl)
    · cases h
/-! ### targets -/
theorem rel_local {scope sc : Scope} {x : Str} : ∀ {l : List (Str × NameKind)} {k : NameKind}, l.lookup x = some k → k ≠ .free → (l.map fun (n, k) => if (k == .free && sc.kind == .function && sc.names.lookup n == some .cell) then (n, .cell) else (n, k)).lookup x = some k
  | [], _, h, _ => by cases h
  | (n, k') :: l, k, h, hk => by
    rw [List.lookup_cons] at h
    rw [List.map_cons, List.lookup_cons]
    by_cases e : (x == n) = true
    · rw [e] at h
      cases h
      have kf : (k' == NameKind.free) = false := by cases k' <;> first | rfl | exact absurd rfl hk
      simp [kf, e]
    · have e : (x == n) = false := by simpa using e
      rw [e] at h
      have ih := rel_local (scope := scope) (sc := sc) h hk
      have e2 : (x == (if (k' == NameKind.free && sc.kind == ScopeKind.function && List.lookup n sc.names == some NameKind.cell) = true then (n, NameKind.cell) else (n, k')).1) = false := by
        split <;> exact e
      show (match (x == _) with | true => _ | false => _) = _
      rw [e2]
      exact ih
theorem assign_len : ∀ {ts : List Tg} {es : List Expr} {so : Scope} {env : Env}, ckGs N so ts es = true → (assignEach es env).length = ts.length ∧ (assignEach es env).findIdx? (·.1) = none
  | [], es, so, env, h => by
    unfold ckGs at h
    split at h
    · exact ⟨rfl, rfl⟩
    · cases h
  | t :: ts, es, so, env, h => by
    unfold ckGs at h
    split at h
    · rename_i e es'
      rw [Bool.and_eq_true] at h
      obtain ⟨i1, i2⟩ := assign_len (env := env) h.2
      have ec : assignEach (e :: es') env = (false, assign e env) :: assignEach es' env := by
        cases t with
        | nm i => unfold ckG at h; cases e <;> first | rfl | exact absurd h.1 (by simp)
        | tp us => unfold ckG at h; cases e <;> first | rfl | exact absurd h.1 (by simp)
      rw [ec]
      exact ⟨by rw [List.length_cons, List.length_cons, i1], by rw [List.findIdx?_cons]; simp [i2]⟩
    · cases h
mutual
theorem so_G (hN : X.N = N) (nd : N.Nodup) (hc : X.calm = true) {so : Scope} (hl : ∀ x, Loc so x → Loc X.env.scope x ∧ (X.fn x = true ∨ X.env.scope.names.lookup x = some .local)) : ∀ (t : Tg) (e : Expr), ckG N so t e = true → PG X e (RdG X t)
  | .nm i, e, h => by
    unfold ckG at h
    split at h
    · rename_i x p
      rw [Bool.and_eq_true] at h
      obtain ⟨l1, l2⟩ := hl _ (locB_of h.2)
      exact gg_name (by rw [hN]; exact nd) (by rw [hN]; exact of_decide_eq_true h.1) l1 l2
    · cases h
  | .tp ts, e, h => by
    unfold ckG at h
    split at h
    · rename_i es k p
      obtain ⟨l1, l2⟩ := assign_len (env := X.env) h
      exact gg_tup hc (so_Gs hN nd hc hl ts es h) l1 l2
    · cases h
theorem so_Gs (hN : X.N = N) (nd : N.Nodup) (hc : X.calm = true) {so : Scope} (hl : ∀ x, Loc so x → Loc X.env.scope x ∧ (X.fn x = true ∨ X.env.scope.names.lookup x = some .local)) : ∀ (ts : List Tg) (es : List Expr), ckGs N so ts es = true → PGs X es (RdGs X ts)
  | [], es, h => by
    unfold ckGs at h
    split at h
    · exact ggs_nil
    · cases h
  | t :: ts, es, h => by
    unfold ckGs at h
    split at h
    · rename_i e es'
      rw [Bool.and_eq_true] at h
      refine ggs_cons (so_G hN nd hc hl t e h.1) (so_Gs hN nd hc hl ts es' h.2) ?_
      have h1 := h.1
      cases t with
      | nm i => unfold ckG at h1; cases e <;> first | rfl | exact absurd h1 (by simp)
      | tp us => unfold ckG at h1; cases e <;> first | rfl | exact absurd h1 (by simp)
    · cases h
end
theorem map_own {N : List Str} : ∀ {own : List Nat}, ((own.map fun i => (N.getD i ⟨#[]⟩, i)).map (·.2)) = own
  | [] => rfl
  | i :: r => by rw [List.map_cons, List.map_cons, map_own (own := r)]
/-- a comprehension -/
theorem sc_comp (ok : OkE X W c fs j N sc) {elt : Ex} {tg : Tg} {k : ItK} {es ifs : List Ex} {own : List Nat} {mu : Bool} {e : Expr} (iA : ∀ as, ckEs c.ks N fs es sc as = true → PA X as (RdA X W es.length (wpEs c es))) (i1 : ∀ e, ckEs c.ks N fs es sc [e] = true → ∃ x, es = [x] ∧ PE X e (RdE X W (wpE c x)))
    (ie : ∀ {X' : Cx} {W' : WX} {sc' : Scope}, OkE X' W' c fs j N sc' → ∀ e, ckE c.ks N fs elt sc' e = true → PE X' e (RdE X' W' (wpE c elt)))
    (it : ∀ {X' : Cx} {W' : WX} {sc' : Scope}, OkE X' W' c fs j N sc' → ∀ fl, ckEs c.ks N fs ifs sc' fl = true → ifs.length ≤ 1 → PTs X' fl (RdT X' W' fun ρ m K _ => wpTs c ifs ρ m K))
    (h : ckE c.ks N fs (.comp elt tg k es ifs own mu) sc e = true) : PE X e (RdE X W (wpE c (.comp elt tg k es ifs own mu))) := by
  unfold ckE at h
  split at h
  · rename_i el t itx fl scope pos
    simp only [Bool.and_eq_true] at h
    obtain ⟨⟨⟨⟨⟨⟨⟨⟨⟨h0, h1⟩, h2⟩, h3⟩, h4⟩, h5⟩, h6⟩, h7⟩, h8⟩, h9⟩ := h
    have hb : hotB fs = false := by simpa using h0
    have pi := so_pi ok iA i1 h9
    have bk : BlkOk X.N X.env.scope scope (own.map fun i => (N.getD i ⟨#[]⟩, i)) := by rw [ok.hN, ok.sc]; exact blkOk_by h4
    have pl := pe_lc (elt := el) (ifs := fl) (pos := pos) (g := RdG X tg) (tt := RdT X W0 fun ρ m K _ => wpTs c ifs ρ m K) (te := RdE X W0 (wpE c elt)) (ok.calm hb) (by rw [ok.hN]; exact ok.nd) pi bk
      (fun s H C cl fp => by
        have o2 := ok.blk s H C cl fp scope
        refine so_G (X := X.blk s H scope (compEnvC scope cl C X.env) fp) o2.hN o2.nd (o2.calm hb) (so := scope) (fun x hx => ?_) tg t h5
        have es : (compEnvC scope cl C X.env).scope = relS scope X.env.scope := rfl
        rcases hx with hx | hx
        · have q : (relS scope X.env.scope).names.lookup x = some .local := rel_local (scope := scope) hx (by simp)
          exact ⟨.inl q, .inr q⟩
        · have q : (relS scope X.env.scope).names.lookup x = some .cell := rel_local (scope := scope) hx (by simp)
          exact ⟨.inr q, .inl (by show (scope.names.lookup x == some NameKind.cell) = true; rw [hx]; rfl)⟩)
      (fun s H C cl fp => it (ok.blk s H C cl fp scope) fl h8 (of_decide_eq_true h7)) (fun s H C cl fp => ie (ok.blk s H C cl fp scope) el h6) (fun x => fold_plain h1 x)
    rw [map_own] at pl
    exact PE.imp pl fun σ H Q q => lc_read (wt := fun ρ m K _ => wpTs c ifs ρ m K) h2 q
  · cases h
/-- .. where an exception is handled -/
theorem sc_hcomp (ok : OkE X W c fs j N sc) {i : Nat} {elt : Ex} {v : Nat} {r : Ex} {own : List Nat} {e : Expr} (ir : ∀ e, ckE c.ks N fs r sc e = true → PE X e (RdE X W (wpE c r)))
    (ie : ∀ {X' : Cx} {W' : WX} {sc' : Scope}, OkE X' W' c fs j N sc' → ∀ e, ckE c.ks N fs elt sc' e = true → PE X' e (RdE X' W' (wpE c elt)))
    (h : ckE c.ks N fs (.hcomp i elt v r own) sc e = true) : PE X e (RdE X W (wpE c (.hcomp i elt v r own))) := by
  unfold ckE at h
  split at h
  · rename_i el y py x px a0 pc scope pos
    simp only [Bool.and_eq_true] at h
    obtain ⟨⟨⟨⟨⟨⟨⟨h0, h2⟩, h3⟩, h4⟩, h5⟩, h6⟩, ⟨h7, h8⟩, h9⟩, h10⟩ := h
    have e1 := strB_of h7
    subst e1
    obtain ⟨ad, ea, hh, _⟩ := ok.hot h0
    have hm : X.mg (Str.ofString "range") = none := ok.prm.blt "range" (by decide)
    have pi : PIX X (.Name y py) (.Call (.Name (Str.ofString "range") px) [a0] [] pc) (RdI X W (wiOf c .range [r])) :=
      gi_range1X (ok.gl h8) hm (ga_cons (ir _ h10) ga_nil (star_cons h9)) (by rw [star_cons h9]; rfl)
    have bk : BlkOk X.N X.env.scope scope (own.map fun i => (N.getD i ⟨#[]⟩, i)) := by rw [ok.hN, ok.sc]; exact blkOk_by h4
    have pl := pe_lcX (elt := el) (ifs := []) (pos := pos) (g := RdG X (.nm v)) (tt := RdT X W0 fun ρ m K _ => K true m) (te := RdE X W0 (wpE c elt)) hh (by rw [ok.hN]; exact ok.nd) pi bk
      (fun s H C cl fp => by
        have o2 := ok.blk s H C cl fp scope
        have hg : (decide (N[v]? = some y) && locB scope y) = true := by unfold ckG at h5; exact h5
        rw [Bool.and_eq_true] at hg
        have lo : Loc (relS scope X.env.scope) y ∧ ((scope.names.lookup y == some NameKind.cell) = true ∨ (relS scope X.env.scope).names.lookup y = some .local) := by
          rcases locB_of hg.2 with hx | hx
          · have q : (relS scope X.env.scope).names.lookup y = some .local := rel_local (scope := scope) hx (by simp)
            exact ⟨.inl q, .inr q⟩
          · have q : (relS scope X.env.scope).names.lookup y = some .cell := rel_local (scope := scope) hx (by simp)
            exact ⟨.inr q, .inl (by rw [hx]; rfl)⟩
        exact gg_name (X := X.blk s H scope (compEnvC scope cl C X.env) fp) (by rw [o2.hN]; exact o2.nd) (by rw [o2.hN]; exact of_decide_eq_true hg.1) lo.1 lo.2)
      (fun s H C cl fp => PTs.imp pts_nil fun σ H Q ⟨ρ, m, F, Q0, E0, A, hw, g, gx⟩ => g _ _ _ _ hw (.same A.rel)) (fun s H C cl fp => ie (ok.blk s H C cl fp scope) el h6) (fun x => fold_plain rfl x)
    rw [map_own] at pl
    refine PE.imp pl fun σ H Q q => lc_readX (mu := false) (hot := fun ρ => getw (slot ρ i) fun x => match x with | .exc a _ _ _ => c.hot = some a | _ => False) (wt := fun ρ m K _ => K true m) (wi := wiOf c .range [r]) (fun ρ m F σ H A hx => ?_) h2 ?_
    · obtain ⟨d, e2, hx⟩ := getw_iff.mp hx
      obtain ⟨vv, e3, rep⟩ := A.env.2 i d e2
      cases d with
      | exc a cn ns vs =>
        have hx : c.hot = some a := hx
        rw [ea] at hx
        cases hx
        obtain ⟨_, fa, oe, C, us, eH, _, xo, _⟩ := rep
        obtain ⟨_, ws, d1, d2⟩ := xo
        exact ⟨fa, oe, ws, eH, d1, d2⟩
      | _ => exact hx.elim
    · exact q
  · cases h
end
end PT
end
section
set_option linter.all false
set_option maxRecDepth 100000
set_option maxHeartbeats 4000000
/-! PtO: soundness of the check, the whole of expressions. -/
namespace PT
open PySem PySem.Spec PyProof.Rows L2

section
variable {c : Cfg} {fs : List (String × CS)} {j : Nat} {N : List Str}
theorem keys_ok : ∀ {ks : List (List Nat)} {kes : List (Option Expr)}, keysB ks kes = true → kes.all (·.isSome) = true ∧ kes.length = ks.length
  | [], kes, h => by
    unfold keysB at h
    split at h
    · exact ⟨rfl, rfl⟩
    · cases h
  | k :: ks, kes, h => by
    unfold keysB at h
    split at h
    · rw [Bool.and_eq_true] at h
      obtain ⟨i1, i2⟩ := keys_ok h.2
      exact ⟨by rw [List.all_cons, i1]; rfl, congrArg Nat.succ i2⟩
    · cases h
abbrev Sound (X : Cx) (W : WX) (c : Cfg) (e : Expr) (x : Ex) : Prop := PE X e (RdE X W (wpE c x)) ∧ L2.PT X e (RdT X W (wB (wpE c x)))
mutual
theorem so_E : ∀ (x : Ex) {X : Cx} {W : WX} {sc : Scope}, OkE X W c fs j N sc → ∀ e : Expr, ckE c.ks N fs x sc e = true → Sound X W c e x
  | .var i, X, W, sc, ok, e, h => sc_var ok h
  | .lit d, X, W, sc, ok, e, h => sc_lit ok h
  | .glo g, X, W, sc, ok, e, h => sc_glo ok h
  | .tup es, X, W, sc, ok, e, h => by
    unfold ckE at h
    split at h
    · rename_i as k p
      rw [Bool.and_eq_true] at h
      have hl := of_decide_eq_true h.1
      exact both (ge_tup (so_Es es ok as h.2) (by rw [sizeLine_eq]; omega)) fun _ => rfl
    · cases h
  | .lst es, X, W, sc, ok, e, h => by
    unfold ckE at h
    split at h
    · rename_i as p
      rw [Bool.and_eq_true] at h
      have hl := of_decide_eq_true h.1
      exact both (ge_lst (so_Es es ok as h.2) (by rw [sizeLine_eq]; omega)) fun _ => rfl
    · cases h
  | .newl es, X, W, sc, ok, e, h => by
    unfold ckE at h
    split at h
    · rename_i as p
      rw [Bool.and_eq_true] at h
      have hl := of_decide_eq_true h.1
      exact both (ge_newl (so_Es es ok as h.2) (by rw [sizeLine_eq]; omega)) fun _ => rfl
    · cases h
  | .newd, X, W, sc, ok, e, h => by
    unfold ckE at h
    split at h
    · exact both ge_newd fun _ => rfl
    · cases h
  | .dlit ks es, X, W, sc, ok, e, h => by
    unfold ckE at h
    split at h
    · rename_i kes ves p
      simp only [Bool.and_eq_true, decide_eq_true_eq] at h
      obtain ⟨⟨⟨⟨⟨h1, h2⟩, h3⟩, h4⟩, h5⟩, h6⟩ := h
      obtain ⟨k1, k2⟩ := keys_ok h1
      have pl := (plains_of h6).2
      exact both (ge_dlit (so_D es ok p ks kes ves h1 h6 h5) k1 (by omega) (fun z => by rw [z] at k2; simp at k2; omega) (by omega) h5 k2 h2) fun _ => rfl
    · cases h
  | .bin op a b, X, W, sc, ok, e, h => by
    unfold ckE at h
    split at h
    · simp only [Bool.and_eq_true] at h
      obtain ⟨⟨h1, h2⟩, h3⟩ := h
      have z := binQ_of h1
      subst z
      exact both (ge_bin (so_E a ok _ h2).1 (so_E b ok _ h3).1) fun _ => rfl
    · cases h
  | .neg a, X, W, sc, ok, e, h => by
    unfold ckE at h
    split at h
    · exact both (ge_neg (so_E a ok _ h).1) fun _ => rfl
    · cases h
  | .cmp op a b, X, W, sc, ok, e, h => by
    unfold ckE at h
    split at h
    · simp only [Bool.and_eq_true] at h
      obtain ⟨⟨⟨h1, h2⟩, h3⟩, h4⟩ := h
      have z := copQ_of h1
      subst z
      have pa := (so_E a ok _ h3).1
      have pb := (so_E b ok _ h4).1
      exact ⟨ge_cmp ok.units pa pb (nomark_plain h2), gt_cmp ok.units pa pb (nomark_plain h2)⟩
    · cases h
  | .cmp2 op op' a b d, X, W, sc, ok, e, h => by
    unfold ckE at h
    split at h
    · simp only [Bool.and_eq_true] at h
      obtain ⟨⟨⟨⟨⟨h1, h2⟩, h3⟩, h4⟩, h5⟩, h6⟩ := h
      have z := copQ_of h1
      subst z
      have z := copQ_of h2
      subst z
      have pa := (so_E a ok _ h4).1
      have pb := (so_E b ok _ h5).1
      have pd := (so_E d ok _ h6).1
      exact ⟨ge_cmp2 ok.units pa pb pd (nomark_plain h3), gt_cmp2 ok.units pa pb pd (nomark_plain h3)⟩
    · cases h
  | .and a b, X, W, sc, ok, e, h => by
    unfold ckE at h
    split at h
    · rename_i x y r p
      rw [Bool.and_eq_true] at h
      obtain ⟨h1, h2⟩ := h
      have pa := so_E a ok _ h1
      unfold Sound
      rw [wB_and]
      split at h2
      · have pb := so_E b ok _ h2
        exact ⟨ge_and pa.1 (ge_one pb.1), (gw_and pa.2 (gw_and1 pb.2)).pt⟩
      · have pb := so_E b ok _ h2
        exact ⟨ge_and pa.1 pb.1, (gw_and pa.2 (PW.ofPT pb.2)).pt⟩
    · cases h
  | .or a b, X, W, sc, ok, e, h => by
    unfold ckE at h
    split at h
    · rename_i x y r p
      rw [Bool.and_eq_true] at h
      obtain ⟨h1, h2⟩ := h
      have pa := so_E a ok _ h1
      unfold Sound
      rw [wB_or]
      split at h2
      · have pb := so_E b ok _ h2
        exact ⟨ge_or pa.1 (ge_one pb.1), (gw_or pa.2 (gw_or1 pb.2)).pt⟩
      · have pb := so_E b ok _ h2
        exact ⟨ge_or pa.1 pb.1, (gw_or pa.2 (PW.ofPT pb.2)).pt⟩
    · cases h
  | .not a, X, W, sc, ok, e, h => by
    unfold ckE at h
    split at h
    · have pa := so_E a ok _ h
      unfold Sound
      rw [wB_not]
      exact ⟨ge_not pa.1, gt_not pa.2⟩
    · cases h
  | .ite d a b, X, W, sc, ok, e, h => by
    unfold ckE at h
    split at h
    · simp only [Bool.and_eq_true] at h
      obtain ⟨⟨h1, h2⟩, h3⟩ := h
      have pd := so_E d ok _ h1
      have pa := so_E a ok _ h2
      have pb := so_E b ok _ h3
      exact ⟨ge_ite pd.2 pa.1 pb.1, gt_ite pd.2 pa.2 pb.2⟩
    · cases h
  | .idx a i, X, W, sc, ok, e, h => by
    unfold ckE at h
    split at h
    · simp only [Bool.and_eq_true] at h
      obtain ⟨⟨h1, h2⟩, h3⟩ := h
      exact both (ge_ix (so_E a ok _ h2).1 (so_E i ok _ h3).1 (plainIx h1)) fun _ => rfl
    · cases h
  | .sl a lo hi, X, W, sc, ok, e, h => by
    unfold ckE at h
    split at h
    · simp only [Bool.and_eq_true] at h
      obtain ⟨⟨h1, h2⟩, h3⟩ := h
      exact both (ge_sl (so_E a ok _ h1).1 (so_P lo ok _ h2) (so_P hi ok _ h3)) fun _ => rfl
    · cases h
  | .call f es, X, W, sc, ok, e, h => sc_call ok (fun as ha => so_Es es ok as ha) h
  | .callk f sg es ws, X, W, sc, ok, e, h => sc_callk ok (fun as ha => so_Es es ok as ha) (fun kws hk => so_K ws ok kws hk) h
  | .bi f es, X, W, sc, ok, e, h => sc_bi ok (fun as ha => so_Es es ok as ha) h
  | .me f o es, X, W, sc, ok, e, h => sc_me ok (fun e he => (so_E o ok e he).1) (fun as ha => so_Es es ok as ha) h
  | .gin neg a g, X, W, sc, ok, e, h => sc_gin ok (fun e he => (so_E a ok e he).1) h
  | .gat g a, X, W, sc, ok, e, h => sc_gat ok (fun e he => (so_E a ok e he).1) h
  | .attr o f, X, W, sc, ok, e, h => sc_attr ok (fun e he => (so_E o ok e he).1) h
  | .isi a g, X, W, sc, ok, e, h => sc_isi ok (fun e he => (so_E a ok e he).1) h
  | .frz a, X, W, sc, ok, e, h => sc_frz ok (fun e he => (so_E a ok e he).1) h
  | .mth t f o es, X, W, sc, ok, e, h => sc_mth ok (fun e he => (so_E o ok e he).1) (fun as ha => so_Es es ok as ha) h
  | .rev a, X, W, sc, ok, e, h => by
    unfold ckE at h
    split at h
    · exact both (ge_rev (so_E a ok _ h).1) fun _ => rfl
    · cases h
  | .din neg k d, X, W, sc, ok, e, h => by
    unfold ckE at h
    split at h
    · simp only [Bool.and_eq_true] at h
      obtain ⟨⟨⟨h1, h2⟩, h3⟩, h4⟩ := h
      have z := copQ_of h1
      subst z
      have pa := (so_E k ok _ h3).1
      have pb := (so_E d ok _ h4).1
      exact ⟨ge_din ok.units pa pb (nomark_plain h2), gt_din ok.units pa pb (nomark_plain h2)⟩
    · cases h
  | .dget d k, X, W, sc, ok, e, h => by
    unfold ckE at h
    split at h
    · simp only [Bool.and_eq_true] at h
      obtain ⟨⟨h1, h2⟩, h3⟩ := h
      exact both (ge_dget ok.units (so_E d ok _ h2).1 (so_E k ok _ h3).1 (noSl h1)) fun _ => rfl
    · cases h
  | .isx a g, X, W, sc, ok, e, h => sc_isx ok (fun e he => (so_E a ok e he).1) h
  | .xat o f, X, W, sc, ok, e, h => sc_xat ok (fun e he => (so_E o ok e he).1) h
  | .xcall f es, X, W, sc, ok, e, h => sc_xcall ok (fun as ha => so_Es es ok as ha) h
  | .cv i gs es, X, W, sc, ok, e, h => sc_cv ok (fun as ha => so_Es es ok as ha) h
  | .hcomp i elt v r own, X, W, sc, ok, e, h => by
    have p := sc_hcomp ok (fun e he => (so_E r ok e he).1) (fun o e he => (so_E elt o e he).1) h
    unfold ckE at h
    split at h
    · exact both p fun _ => rfl
    · cases h
  | .comp elt tg k es ifs own mu, X, W, sc, ok, e, h => by
    have p := sc_comp ok (fun as ha => so_Es es ok as ha) (fun e he => (so_1 es ok e he).imp fun x z => ⟨z.1, z.2.1⟩) (fun o e he => (so_E elt o e he).1) (fun o fl hf hl => so_Ts ifs o fl hf hl) h
    unfold ckE at h
    split at h
    · exact both p fun _ => rfl
    · cases h
termination_by structural x => x
theorem so_D : ∀ (xs : List Ex) {X : Cx} {W : WX} {sc : Scope}, OkE X W c fs j N sc → ∀ (pos : Pos) (ks : List (List Nat)) (kes : List (Option Expr)) (ves : List Expr), keysB ks kes = true → ckEs c.ks N fs xs sc ves = true → ks.length = xs.length → PPs X pos kes ves (trsOf c X W ks xs)
  | [], X, W, sc, ok, pos, ks, kes, ves, h1, h2, h3 => by
    have z : ks = [] := List.length_eq_zero_iff.mp h3
    subst z
    unfold keysB at h1
    split at h1
    · unfold ckEs at h2
      split at h2
      · exact pps_nil
      · cases h2
    · cases h1
  | x :: xs, X, W, sc, ok, pos, ks, kes, ves, h1, h2, h3 => by
    cases ks with
    | nil => cases h3
    | cons k ks =>
      unfold keysB at h1
      split at h1
      · rename_i y i p r
        rw [Bool.and_eq_true] at h1
        unfold ckEs at h2
        split at h2
        · simp only [Bool.and_eq_true] at h2
          have e := of_decide_eq_true h1.1
          subst e
          exact pps_cons (show PE X (.Constant (.str (mkS k)) i p) (tC (.str (mkS k))) from pe_str) (so_E x ok _ h2.1.2).1 (so_D xs ok pos ks r _ h1.2 h2.2 (Nat.succ.inj h3))
        · cases h2
      · cases h1
termination_by structural x => x
theorem so_Es : ∀ (xs : List Ex) {X : Cx} {W : WX} {sc : Scope}, OkE X W c fs j N sc → ∀ es : List Expr, ckEs c.ks N fs xs sc es = true → PA X es (RdA X W xs.length (wpEs c xs))
  | [], X, W, sc, ok, es, h => by
    unfold ckEs at h
    split at h
    · exact ga_nil
    · cases h
  | x :: xs, X, W, sc, ok, es, h => by
    unfold ckEs at h
    split at h
    · simp only [Bool.and_eq_true] at h
      obtain ⟨⟨h1, h2⟩, h3⟩ := h
      exact ga_cons (so_E x ok _ h2).1 (so_Es xs ok _ h3) (star_cons h1)
    · cases h
termination_by structural x => x
theorem so_K : ∀ (xs : List Ex) {X : Cx} {W : WX} {sc : Scope}, OkE X W c fs j N sc → ∀ kws : List Keyword, ckEs c.ks N fs xs sc (kws.map (·.value)) = true → PK X kws (RdA X W xs.length (wpEs c xs))
  | [], X, W, sc, ok, kws, h => by
    cases kws with
    | nil => exact gk_nil
    | cons _ _ => unfold ckEs at h; cases h
  | x :: xs, X, W, sc, ok, kws, h => by
    cases kws with
    | nil => unfold ckEs at h; cases h
    | cons kw kws =>
      obtain ⟨nm, v, p⟩ := kw
      have h : (plainE v && ckE c.ks N fs x sc v && ckEs c.ks N fs xs sc (kws.map (·.value))) = true := by unfold ckEs at h; exact h
      simp only [Bool.and_eq_true] at h
      exact gk_cons (so_E x ok _ h.1.2).1 (so_K xs ok _ h.2)
termination_by structural x => x
theorem so_1 : ∀ (xs : List Ex) {X : Cx} {W : WX} {sc : Scope}, OkE X W c fs j N sc → ∀ e : Expr, ckEs c.ks N fs xs sc [e] = true → ∃ x, xs = [x] ∧ Sound X W c e x
  | [], X, W, sc, ok, e, h => by
    unfold ckEs at h
    cases h
  | x :: xs, X, W, sc, ok, e, h => by
    have pl := plains_of h
    have z : xs = [] := by
      cases xs with
      | nil => rfl
      | cons _ _ => simp at pl
    have h : (plainE e && ckE c.ks N fs x sc e && ckEs c.ks N fs xs sc []) = true := by unfold ckEs at h; exact h
    simp only [Bool.and_eq_true] at h
    exact ⟨x, by rw [z], so_E x ok e h.1.2⟩
termination_by structural x => x
theorem so_P : ∀ (xs : List Ex) {X : Cx} {W : WX} {sc : Scope}, OkE X W c fs j N sc → ∀ o : Option Expr, ckP c.ks N fs xs sc o = true → PO X o (RdP X W (wpP c xs))
  | [], X, W, sc, ok, o, h => by
    unfold ckP at h
    split at h
    · exact gp_none
    · cases h
  | [x], X, W, sc, ok, o, h => by
    unfold ckP at h
    split at h
    · exact gp_some (so_E x ok _ h).1
    · cases h
  | _ :: _ :: _, X, W, sc, ok, o, h => by
    unfold ckP at h
    cases h
termination_by structural x => x
theorem so_Ts : ∀ (xs : List Ex) {X : Cx} {W : WX} {sc : Scope}, OkE X W c fs j N sc → ∀ fl : List Expr, ckEs c.ks N fs xs sc fl = true → xs.length ≤ 1 → PTs X fl (RdT X W fun ρ m K _ => wpTs c xs ρ m K)
  | [], X, W, sc, ok, fl, h, hl => by
    unfold ckEs at h
    split at h
    · exact PTs.imp pts_nil fun σ H Q ⟨ρ, m, F, Q0, E0, A, hw, g, gx⟩ => g _ _ _ _ hw (.same A.rel)
    · cases h
  | [x], X, W, sc, ok, fl, h, hl => by
    have pl := plains_of h
    obtain ⟨e, rfl⟩ := List.length_eq_one_iff.mp pl.2.symm
    have h : (plainE e && ckE c.ks N fs x sc e && ckEs c.ks N fs [] sc []) = true := by unfold ckEs at h; exact h
    simp only [Bool.and_eq_true] at h
    refine PTs.imp (pts_one (so_E x ok e h.1.2).2) fun σ H Q ⟨ρ, m, F, Q0, E0, A, hw, g, gx⟩ => ⟨ρ, m, F, Q0, noX, A, hw, g, fun _ _ _ _ _ _ z => z.elim⟩
  | _ :: _ :: _, X, W, sc, ok, fl, h, hl => by
    simp at hl
termination_by structural x => x
end
end
end PT
end
section
set_option linter.all false
set_option maxRecDepth 100000
set_option maxHeartbeats 4000000
/-! PtXB: exceptions raised: classes over ValueError with a field. -/
namespace PT
open PySem PySem.Spec PyProof.Rows L2

/-- what an exception class B that has no __init__ of its own says of it -/
structure XBase (K : PySem.W.Frag) (mg : Str → Option Value) (B : String) : Prop where
  ex : ∃ C, mg (Str.ofString B) = some (.ref C) ∧ PySem.W.specialIn K (.ref C) "__getattribute__" = some (some (.builtin "type.__getattribute__")) ∧ PySem.W.readsIn K C (.type "type") = true ∧
    PySem.W.findCls K (.ref C) (.type "type") "__init__" = some (.val (.builtin "ValueError.__init__"))
section
variable {X : Cx} {e : Expr} {es : List Expr} {ta : TA} {B : String} {p1 p2 pos : Pos}
theorem pe_xinit {pl : Sem Bool} (xb : XBase X.K X.mg B) (hg : Gl X (Str.ofString B)) (hd : (Str.ofString B == ("__debug__" : Str)) = false) (ha : PA X (e :: es) ta)
    (hc : eval (.Call (.Attribute (.Name (Str.ofString B) p1) "__init__" p2) (e :: es) [] pos) X.env = (do
      let ov ← eval (.Name (Str.ofString B) p1) X.env
      standAt p2.atName
      let (f, first) ← holding [ov] (getMethod ov "__init__" pl)
      callWith pos f first (backTo pos (starEach (e :: es) X.env)) (backToKw pos (keywordEach [] X.env))))
    (he : starEach (e :: es) X.env = (false, eval e X.env) :: starEach es X.env) (hpl : (backTo pos (starEach es X.env)).any (·.1) = false) :
    PE X (.Call (.Attribute (.Name (Str.ofString B) p1) "__init__" p2) (e :: es) [] pos) (tVeI X.K ta) := by
  obtain ⟨CB, hm, h1, h2, h3⟩ := xb.ex
  refine ⟨fun pins s σ H Q I h => ?_⟩
  refine PySem.W.methodCall_KW (ld_glob I hg hm ?_ hd) hc
  refine PySem.W.method_cls I.kIn h1 (PySem.W.cls_value I.kIn h2 h3 (by decide +kernel) ?_)
  show wpAny _ _ (callWith pos (Value.builtin "ValueError.__init__") [] (backTo pos (starEach (e :: es) X.env)) []) _ _ _
  refine PyProof.Rows.callWith_method1 (thn (ha.run pos pins _ σ H _ (I.tok _) h) fun us s1 ⟨vs, H1, I1, r1, a, C, ws, ev, hl, T, ea, q⟩ => ?_) he hpl
  subst ev
  cases r1 with
  | @cons _ u0 _ ur ra rw' =>
    obtain rfl : u0 = Value.ref a := ra
    have hlen : ur.length ≤ sizeLine := by
      rw [← Paired.length rw', sizeLine_eq]
      omega
    exact oinit_ok T I1 ea hlen fun s' J => ⟨.non, H1, J, rfl, q⟩
end
/-- its body: B.__init__(self, '..'); self.f = f -/
def xiB (B f : String) (body : List Stmt) : Bool := match body with
  | [.Expr (.Call (.Attribute (.Name b _) i ap) [.Name s _, .Constant (.str _) _ _] [] p) _, .Assign [.Attribute (.Name s2 _) g _] (.Name v _) _] =>
    strB B b && strB "__init__" i && strB "self" s && strB "self" s2 && strB f g && strB f v && (ap.endLine == p.line)
  | _ => false
section
variable {P : Program} {w : World} {K : PySem.W.Frag} {mg : Str → Option Value} {base : Heap} {x qual : Str} {params : Arguments} {body : List Stmt} {scope : Scope} {fI : Addr} {fd : FuncData} {B f : String}
theorem xinit_ok (Fd : FunD K x qual params body scope [] [] fI fd) (S : FnScope ["self", Str.ofString f] ["self", Str.ofString f] scope) (hb : xiB B f body = true) (xb : XBase K mg B)
    (hB : glB scope (Str.ofString B) = true) (hd : dbgB (Str.ofString B) = true) (hs : visB scope "self" = true) (hf : visB scope (Str.ofString f) = true) (hdf : dbgB (Str.ofString f) = true) :
    FnOk P w K mg base (L2N.CX P w) 1 fI fd ["self", Str.ofString f] (spX K (Str.ofString f)) := by
  unfold xiB at hb
  split at hb
  · rename_i b p1 i ap s ps c ci cp p p' s2 ps2 g pg v pv pa
    simp only [Bool.and_eq_true] at hb
    obtain ⟨⟨⟨⟨⟨⟨h1, h2⟩, h3⟩, h4⟩, h5⟩, h6⟩, h7⟩ := hb
    have h1 := strB_of h1
    have h2 := strB_of h2
    have h3 := strB_of h3
    have h4 := strB_of h4
    have h5 := strB_of h5
    have h6 := strB_of h6
    subst h1 h2 h3 h4 h5 h6
    refine Fd.ok S (fun vs H Q E ⟨a, C, v, e, _⟩ => by rw [e]; rfl) fun cdv A outer s H vs Q E hr hsp => ?_
    obtain ⟨a, C, v, rfl, ea, T, hno, q⟩ := hsp
    have pself : ∀ {pp}, PE (cxOf (L2N.CX P w) P w K mg base ["self", Str.ofString f] qual scope fI cdv A outer s H E) (.Name (Str.ofString "self") pp) (fun σ H Q => ∃ v, σ[0]? = some (some v) ∧ Q v H) := fun {pp} => pe_var (i := 0) rfl (visB_of hs) (by decide) (by decide)
    have pf : ∀ {pp}, PE (cxOf (L2N.CX P w) P w K mg base ["self", Str.ofString f] qual scope fI cdv A outer s H E) (.Name (Str.ofString f) pp) (fun σ H Q => ∃ v, σ[1]? = some (some v) ∧ Q v H) := fun {pp} => pe_var (i := 1) rfl (visB_of hf) (dbg_of hdf).1 (dbg_of hdf).2
    refine ⟨_, pss_cons (ps_expr (pe_xinit (X := cxOf (L2N.CX P w) P w K mg base ["self", Str.ofString f] qual scope fI cdv A outer s H E) xb (glB_of hB) (dbg_of hd).1 (pa_cons pself (pa_cons pe_str pa_nil)) (mth_tree (base_plain rfl) (form_ok rfl (by show 2 < 28; decide)) h7) rfl rfl) rfl) (pss_cons (ps_ost pself pf rfl) pss_nil), ?_⟩
    exact ⟨.ref a, rfl, ⟨a, C, [.str c], rfl, (by show 1 ≤ 1000; decide), T, ea, ⟨v, rfl, ⟨.ref a, rfl, ⟨a, C, rfl, T, hno, .inl ⟨ea, fun dx h1 h2 => q dx h1 h2⟩⟩⟩⟩⟩⟩
  · cases hb
end
end PT
end
section
set_option linter.all false
set_option maxRecDepth 100000
set_option maxHeartbeats 4000000
/-! PtXC: raise by readings. -/
namespace PT
open PySem PySem.Spec PyProof.Rows L2

section
variable {X : Cx} {x : Str} {e : Expr} {es : List Expr} {ta : TA} {p pos : Pos} {C fI : Addr} {k : Nat} {fd : FuncData} {ps : List Str} {sp : Sp}
/-- C(e, ..), C's own __init__ keeping sp; its context is None -/
theorem pmk_oexN (T : OexC X.K C) (iC : PySem.W.findIn X.K (.ref C) "__init__" = some (some (.ref fI))) (tI : PySem.W.typeIn X.K (.ref fI) = some (.type "function"))
    (F1 : FnOk X.prog X.w X.K X.mg X.base (L2N.CX X.prog X.w) k fI fd ps sp) (hr : Room (k + 1) X.A) (hb : Binds X.K fd ps []) (hx : ∀ (pins : List (Addr × Obj)) (σ : L2.St) (H : Hp) (s : Shared) (e : Value) (s' : Shared), Inv X pins σ H s → L2N.CX X.prog X.w X.stack H s (fun _ _ _ => False) e s' → X.xe e s') (hg : Gl X x) (hm : X.mg x = some (.ref C)) (ha : PA X (e :: es) ta)
    (hdb : (x == ("__debug__" : Str)) = false) (he : starEach (e :: es) X.env = (false, eval e X.env) :: starEach es X.env) (hpl : (backTo pos (starEach es X.env)).any (·.1) = false) :
    L2N.PMk X (.Call (.Name x p) (e :: es) [] pos) (tMkO C sp [] ta) := by
  intro pins s σ H Q I h
  obtain ⟨nm, q, N, bs, bm, sn, sub, ab, col, dd, k0, k1, k2, k3, k5, hC, hbm⟩ := T.cls
  refine wpAny_Call_Name_kw (ld_glob I hg hm ?_ hdb)
  refine PySem.W.callWith_K (h₀ := X.base) I.ok.mod.kin T.kC (thn (ha.run pos pins s σ H _ I h) fun us s1 ⟨vs, H1, I1, r1, hz, q1⟩ => ⟨I1.kIn, ?_⟩) he hpl
  show wpAny _ _ (call (.ref C) us) _ _ _
  obtain ⟨hp, g, dr, tk, os⟩ := s1
  have hsz : hp.objs.size ≤ hp.objs.size + 1 := Nat.le_succ _
  have hn : H1 (hp.objs.size + 1) = none := I1.hok.fresh hsz
  have hq := q1 (hp.objs.size + 1) hn
  rw [List.append_nil] at hq
  have kk : ∀ b o, hp.get? b = some o → ((hp.push (PySem.W.kdv_tup us)).push (PySem.HandSPX.excO C hp.objs.size)).get? b = some o := fun b o e => Heap.get?_push_of_some _ (Heap.get?_push_of_some _ e)
  have hget : ((hp.push (PySem.W.kdv_tup us)).push (PySem.HandSPX.excO C hp.objs.size)).get? (hp.objs.size + 1) = some (PySem.HandSPX.excO C hp.objs.size) := by heap_get
  have I2 : Inv X pins σ (upd H1 (hp.objs.size + 1) (exo (hp.objs.size + 1) C none)) ⟨(hp.push (PySem.W.kdv_tup us)).push (PySem.HandSPX.excO C hp.objs.size), g, dr, tk, os⟩ :=
    I1.laid (t' := tk) (a := hp.objs.size + 1) (o := exo (hp.objs.size + 1) C none) (h' := (hp.push (PySem.W.kdv_tup us)).push (PySem.HandSPX.excO C hp.objs.size)) kk hsz (exo_ok hget)
  have r2 : Vals (V.ref (hp.objs.size + 1) :: vs) (Value.ref (hp.objs.size + 1) :: us) := .cons rfl r1
  have hl : (Value.ref (hp.objs.size + 1) :: us ++ []).length = ps.length := by
    have e := r2.length
    rw [F1.len _ _ _ _ hq] at e
    rw [List.append_nil]
    exact e.symm
  have hus : us.length ≤ sizeLine := by
    rw [← Paired.length r1, sizeLine_eq]
    omega
  have b2 := hb _ (Value.ref (hp.objs.size + 1) :: us) I2.kIn hl
  rw [List.append_nil] at b2
  refine wpAny_call (PySem.HandSPX.call_own F.excBase_ValueError (fun Y => PySem.HandSPX.refsVE_contains Y bm hbm) (I1.kIn _ _ hC) (PySem.W.looks_findIn I1.kIn iC) (fun self => PySem.W.bind_fn I1.kIn self tI) hus
    (codeAny_mono (F1.run _ X.stack _ _ ⟨Value.ref (hp.objs.size + 1) :: us, []⟩ (Value.ref (hp.objs.size + 1) :: us) _ _ (fun _ _ _ => False) (hr.make C us []) (I2.env0.make C us []) b2 r2 hq) fun r s' hq' => ?_))
  cases r with
  | error er => exact hx pins σ _ _ er s' I2 hq'
  | ok fl =>
    cases fl with
    | ret u =>
      obtain ⟨v, H2, os2, bare2, un2, hok2, rv, ev, d, fs, ea, ed, hd1, q2⟩ := hq'
      subst ev
      obtain ⟨h2, g2, d2, t2, os'⟩ := s'
      obtain ⟨t0, G, J, kG, ge, hoe, na⟩ := mk_end0 (d2 := d2) (t2 := t2) I1 hsz kk un2 hok2 os2 bare2 ea ed hd1
      refine ⟨rv, ⟨hp.objs.size + 1, _, _, ⟨G, g2, d2, t2, os'⟩, _, .ref C, some d, rfl, J, kG, ge, hoe, ⟨rfl, rfl, fun vs hv => ?_⟩, rfl, rfl, na, rfl, bare2, raises_own T.exC T.tyC, q2⟩⟩
      cases hv
      rfl
    | next => exact False.elim hq'
    | brk => exact False.elim hq'
    | cont => exact False.elim hq'
end
section
variable {X : Cx} {W : WX} {f : String} {ns : List String} {e : Expr} {es : List Expr} {n : Nat} {ws : WA0} {p pos pos' : Pos}
theorem gs_raise (rf : RaiseF X.prog X.w X.K X.mg X.base f ns) (hc : X.calm = true) (hr : Room 2 X.A) (tk : L2N.Takes X W) (hg : Gl X (Str.ofString f)) (hd : (Str.ofString f == ("__debug__" : Str)) = false) (ha : PA X (e :: es) (RdA X W n ws))
    (he : starEach (e :: es) X.env = (false, eval e X.env) :: starEach es X.env) (hpl : (backTo pos (starEach es X.env)).any (·.1) = false) (hn : n ≤ 1000) :
    PS X (.Raise (some (.Call (.Name (Str.ofString f) p) (e :: es) [] pos)) none pos') (RdS X W fun ρ m K => ws ρ m (fun ds m1 => ds.length = ns.length ∧ K.xc ρ ⟨f, ns.zip ds⟩ m1) (K.xc ρ)) := by
  obtain ⟨C, fI, fd, fn, rfl, k, T, iC, tI, F1, hb, hno⟩ := rf.ex
  refine PS.imp (L2N.ps_raise hc tk (pmk_oexN T iC tI F1 hr hb (L2N.passes_call tk fun _ _ _ _ z => z.elim) hg k.1 ha hd he hpl)) fun D σ H ⟨ρ, m, F0, K, A, h, g⟩ => ?_
  refine ⟨ρ, m, F0, _, _, A, h, fun ds m1 F1' vs H1 l1 ⟨l2, q1⟩ n1 r1 => ?_, g.gx A⟩
  have lv := r1.len
  refine ⟨by omega, fun a hna => ?_⟩
  obtain ⟨d, rfl⟩ : ∃ d, ds = [d] := List.length_eq_one_iff.mp l2
  obtain ⟨v, r, rfl, rv, er⟩ := r1
  have er : r = [] := er
  subst er
  refine ⟨a, C, v, rfl, upd_same, T, hno, fun dx h1 h2 => ⟨rfl, dx, [(Str.ofString fn, v)], upd_same, by rw [upd_ne h2, upd_same], ?_, ?_⟩⟩
  · rwa [upd_ne h2] at h1
  · have hdx : H1 dx = none := by rwa [upd_ne h2] at h1
    have eH : upd (del (upd (upd (upd H1 a (exo a C none)) dx (exd dx [(Str.ofString fn, v)])) a (exo a C (some dx))) a) dx (HO.xd [(Str.ofString fn, v)]) = upd H1 dx (HO.xd [(Str.ofString fn, v)]) := by
      funext b
      by_cases hb : b = dx
      · rw [hb, upd_same, upd_same]
      · rw [upd_ne hb, upd_ne hb]
        by_cases ha : b = a
        · rw [ha, del_same, hna]
        · rw [del_ne ha, upd_ne ha, upd_ne hb, upd_ne ha]
    rw [eH]
    have n2 : Nx X.K X.mg m1 F1' H1 m1 (addF F1' dx) (upd H1 dx (.xd [(Str.ofString fn, v)])) := .add n1.rel hdx
    refine g.xc _ _ _ _ _ _ _ _ q1 ((A.nx n1).nx n2) (n1.trans n2) ⟨⟨C, k, rfl⟩, [v], ?_, ?_⟩
    · exact Reps.one (Rep.ext n2.ext _ _ rv)
    · exact ⟨.inl rfl, _, upd_same, fun f v h => h⟩
end
end PT
end
section
set_option linter.all false
set_option maxRecDepth 100000
set_option maxHeartbeats 4000000
/-! PtXD: try .. except .. as n, the caught exception tracked. -/
namespace PT
open PySem PySem.Spec PyProof.Rows L2

theorem flying_keeps {base h h' : Heap} {l : List Env} {e : Addr} {Z : Obj → Prop} (k : ∀ b o, h.get? b = some o → h'.get? b = some o) (x : PySem.HandSPX.FlyingZ base l e Z h) : PySem.HandSPX.FlyingZ base l e Z h' := by
  obtain ⟨h1, h2, h3, oe, vs, T, oT, ts, he, hz, hd, h4, hnT, hTe, hT, hdT, h5⟩ := x
  exact ⟨fun b o z => k b o (h1 b o z), h2, h3.of_keeps fun b o z _ => ⟨o, k b o z, rfl⟩, oe, vs, T, oT, ts, k _ _ he, hz, hd, h4, hnT, hTe, k _ _ hT, hdT, h5⟩
section
variable {X : Cx} {pins : List (Addr × Obj)} {σ : L2.St} {H : Hp} {s : Shared}
theorem exq_ok {P : Program} {w : World} {H : Hp} {h : Heap} {a : Addr} {oe : Obj} (e : h.get? a = some oe) : ObjOk P w H h a (exq a oe) := ⟨e, ⟨oe, e⟩, fun _ _ z k => k _ z⟩
/-- into the suite, the exception tracked -/
theorem suiteT (I : Inv X pins σ H s) {a : Addr} {oe : Obj} {vs : Array Value} (ha : s.heap.get? a = some oe) (hd : oe.data = .fields vs) (na : H a = none) (nL : a ≠ X.env.locals) (n0 : X.s_0.heap.get? a = none) (np : ∀ p ∈ X.pn ++ pins, p.1 ≠ a) :
    Inv (X.suite a (X.pn ++ pins)) [] σ (upd H a (exq a oe)) s := by
  have ne0 : ∀ b o, X.s_0.heap.get? b = some o → b ≠ a := fun b o e z => by rw [z, n0] at e; cases e
  refine ⟨I.ok.suite _ _, I.os, I.bare, ⟨I.base.keep, I.base.slot, fun b o e n hx => ?_, I.base.there, fun b xs e => ?_, fun b o u e => ?_, fun b ps e => ?_⟩, I.loc, I.cell, ?_, fun x c e => ?_, fun p hp => ?_, fun b u e => ?_, I.len⟩
  · rw [upd_ne (ne0 b o e)]; exact I.base.free b o e n hx
  · have q := I.base.tups b xs e
    rw [upd_ne (ne_of_none q na)]; exact q
  · have q := I.base.frzs b o u e
    rw [upd_ne (ne_of_none q na)]; exact q
  · obtain ⟨m, q⟩ := I.base.tbls b ps e
    exact ⟨m, by rw [upd_ne (ne_of_none q na)]; exact q⟩
  · rw [upd_ne (Ne.symm nL)]; exact I.free
  · have nc : c ≠ a := fun z => by
      obtain ⟨v, o, ho, hdd⟩ := I.cell x c e
      rw [z, ha] at ho; cases ho
      rw [hd] at hdd; cases hdd
    rw [upd_ne nc]; exact I.freeC x c e
  · have hp' : p ∈ X.pn ++ pins := by rw [List.append_nil] at hp; exact hp
    obtain ⟨e, n, ne, nf, d⟩ := I.pin p hp'
    exact ⟨e, by rw [upd_ne (np p hp')]; exact n, ne, nf, d⟩
  · by_cases hb : b = a
    · subst hb
      rw [upd_same] at e; cases e
      exact exq_ok ha
    · rw [upd_ne hb] at e
      exact (I.hok b u e).stay (fun c v _ q => q) (fun c q => by rw [upd_ne (ne_of_none q na)]; exact q) fun c xs q => by rw [upd_ne (ne_of_none q na)]; exact q
theorem unsuiteT {a : Addr} {pn' : List (Addr × Obj)} (I : Inv (X.suite a (X.pn ++ pins)) pn' σ H s) (ok : X.Ok) : Inv X pins σ H s :=
  ⟨ok, I.os, I.bare, I.base, I.loc, I.cell, I.free, I.freeC, fun p hp => I.pin p (List.mem_append_left _ hp), I.hok, I.len⟩
end
/-- a clause's test: what it says of an exception of a class -/
def XTest (X : Cx) (te : Expr) (tst : Value → Option Bool) : Prop :=
  ∀ (a : Addr) (oe : Obj) (pn : List (Addr × Obj)) (σ : L2.St) (H : Hp) (s : Shared) (cls : Value) (b : Bool) (Q : Value → Shared → Prop) (E : Value → Shared → Prop), Inv (X.suite a ((a, oe) :: pn)) [] σ H s → s.heap.get? a = some oe → oe.cls = cls → tst cls = some b →
    (∀ h', (∀ c o, s.heap.get? c = some o → h'.get? c = some o) → ∀ c, PySem.W.Looks (model X.prog X.w) h' (excMatches (.ref a) c) b → Q c { s with heap := h' }) → wpAny (model X.prog X.w) (X.A.mark (some (.ref a))) (eval te X.env) Q E s
def wTry (tst : Value → Option Bool) (i : Nat) (ts : Addr → TS) (Wout : WX) (D : Ends) : WX := fun cls d σ H =>
  ∃ b, tst cls = some b ∧ (b = true → ∀ a oe, H a = none → L2N.Zn cls d oe → (∃ vs, oe.data = .fields vs) → ts a { nx := fun σ' H' => D.nx (σ'.set i none) H', rt := D.rt, bk := fun σ' H' => D.bk (σ'.set i none) H', ct := fun σ' H' => D.ct (σ'.set i none) H' } (σ.set i (some (.ref a))) (upd H a (exq a oe))) ∧
    (b = false → Wout cls d σ H)
section
variable {X : Cx} {te : Expr} {tst : Value → Option Bool} {n : Str} {i : Nat} {body suite : List Stmt} {b₀ : Stmt} {pos pos' : Pos} {tb : WX → TS} {ts : Addr → TS} {Wout : WX}
theorem ps_tryT (hs : X.stack = X.env :: X.outer) (hex : X.ex = []) (hf : X.env.frame = some X.env.locals) (hN : X.N.Nodup) (hi : X.N[i]? = some n) (hln : X.env.kindOf n = some .local) (hc : XTest X te tst) (tk : L2N.Takes X Wout)
    (hb : ∀ (W : WX) (pn : List (Addr × Obj)) (xe : Value → Shared → Prop), L2N.Takes (X.tr pn xe) W → PassesOwn (model X.prog X.w) X.A X.env xe → PSs (X.tr pn xe) body (tb W))
    (hsu : ∀ (a : Addr) (pn : List (Addr × Obj)), PSs (X.suite a pn) (b₀ :: suite) (ts a)) :
    PS X (.Try body [.ExceptHandler (some te) (some n) (b₀ :: suite) pos'] [] [] pos) (fun D σ H => tb (wTry tst i ts Wout D) D σ H) := by
  refine ⟨fun pins s σ H D I h => ?_⟩
  have ok := I.ok
  have hfr : X.A.frames = some (X.env :: X.outer) := by rw [ok.frames, hs]
  have hloc : Loc X.env.scope n := .inl hln
  refine wpAny_Try_except ?_
  refine wpAny_mono ((hb (wTry tst i ts Wout D) (X.pn ++ pins) (fun e s₁ => wpAny (model X.prog X.w) X.A (noteFrame e X.env) (fun _ s₂ => wpAny (model X.prog X.w) X.A (setFlight e none) (fun _ s₃ =>
    wpAny (model X.prog X.w) X.A (handleBy e X.env [.ExceptHandler (some te) (some n) (b₀ :: suite) pos']) (SP X pins D) X.xe s₃) X.xe s₂) X.xe s₁) (fun u s' xx => ?_) PassesOwn.looking).run [] s σ H D (I.toTry _) h) (fun f s1 hsp => ?_) (fun e s1 he => he)
  · -- the catch
    obtain ⟨a, B, sI, pins', σ', H', cls, d, rfl, J', nb, up, sky, na, os, ag, b, hb1, hyes, hno⟩ := xx
    have JI : Inv X pins σ' H' sI := J'.ofTry ok
    have sky' : L2.Sky B (X.env :: X.outer) a (L2N.Zn cls d) X.env.locals s'.heap := by rw [← hs]; exact sky
    show wpAny (model X.prog X.w) X.A (noteFrame (.ref a) X.env) _ _ _
    refine L2N.Sky.land L2N.Zn.steady hfr hf sky' fun h3 fl3 up3 => ?_
    have J3 : Inv X pins σ' H' { s' with heap := h3 } := JI.landed nb fl3.1 (up.trans up3) os ag
    obtain ⟨oe3, vs3, he3, hz3, hd3⟩ := fl3.there
    have notFr : ∀ {h : Heap} {o : Obj} {vs : Array Value}, h.FunFrames B (X.env :: X.outer) → h.get? a = some o → o.data = .fields vs → a ∉ frs (X.env :: X.outer) := fun {h o vs} ff e dd hm => by
      obtain ⟨_, o', e', hnf⟩ := ff.mem hm
      rw [e] at e'; cases e'
      exact hnf _ dd
    have nfr := notFr fl3.2.2.1 he3 hd3
    have nL : a ≠ X.env.locals := fun z => nfr (List.mem_filterMap.mpr ⟨X.env, List.mem_cons_self, by rw [hf, z]⟩)
    have nF : a ∉ X.fs := fun hm => by
      obtain ⟨e, he, q⟩ := List.mem_filterMap.mp hm
      exact nfr (List.mem_filterMap.mpr ⟨e, List.mem_cons_of_mem _ he, q⟩)
    have hen : B.get? a = none := fl3.2.1
    have nI : sI.heap.get? a = none := by
      cases q : sI.heap.get? a with
      | none => rfl
      | some o =>
        have z := nb a o q (by rw [hs]; exact nfr)
        rw [hen] at z; cases z
    have n0 : X.s_0.heap.get? a = none := by
      cases q : X.s_0.heap.get? a with
      | none => rfl
      | some o =>
        obtain ⟨o', z⟩ := JI.base.there a o q (by rw [hex]; exact fun z => nomatch z)
        rw [nI] at z; cases z
    have np : ∀ p ∈ X.pn ++ pins, p.1 ≠ a := fun p hp z => by
      have q := (JI.pin p hp).1
      rw [z, nI] at q; cases q
    have S3 := J3.suite he3 hd3 na nL nF
    refine wpAny_handleBy_cons (codeAny_handlers_test ?_) (by intro q; cases q)
    refine hc a oe3 _ _ _ _ cls b _ _ S3 he3 hz3.1 hb1 fun h3' k3 cv LM => LM.here ?_
    have fl3' : PySem.HandSPX.FlyingZ B (X.env :: X.outer) a (L2N.Zn cls d) h3' := flying_keeps k3 fl3
    have up3' : s'.heap.UpToSlots h3' := up3.trans (Heap.UpToSlots.of_keeps k3)
    cases b with
    | true =>
      refine codeAny_handlers_suite_as ?_
      refine HandSPX.lands_againZ fl3' fun h4 fl4 up4 => ?_
      have J4 : Inv X pins σ' H' { s' with heap := h4 } := JI.landed nb fl4.1 ((up.trans up3').trans up4) os ag
      obtain ⟨oe4, vs4, he4, hz4, hd4⟩ := fl4.there
      have S4 := suiteT J4 he4 hd4 na nL n0 np
      refine store_ok (X := X.suite a (X.pn ++ pins)) (v := .ref a) S4 hN hi hloc rfl (fun s5 S5 => ?_) (.inr hln)
      refine wpAny_mono ((hsu a (X.pn ++ pins)).run [] s5 _ _ _ S5 (hyes rfl a oe4 na hz4 ⟨_, hd4⟩)) (fun f s6 hsp => ?_) (fun _ _ z => False.elim z)
      have end_ : ∀ {σ6 : L2.St} {H6 : Hp} {Q : Shared → Prop}, Inv (X.suite a (X.pn ++ pins)) [] σ6 H6 s6 → (∀ s7, Inv X pins (σ6.set i none) H6 s7 → Q s7) →
          wpAny (model X.prog X.w) X.A (do bindName X.env n .none; unbindBehindTheSuite X.env n pos') (fun _ s7 => Q s7) X.xe s6 := fun {σ6 H6 Q} S6 hq => gone_ok (unsuiteT S6 ok) hN hi hln hq
      cases f with
      | next =>
        obtain ⟨σ6, H6, S6, q6⟩ := hsp
        exact end_ S6 fun s7 J7 => ⟨_, _, J7, q6⟩
      | brk =>
        obtain ⟨σ6, H6, S6, q6⟩ := hsp
        exact end_ S6 fun s7 J7 => ⟨_, _, J7, q6⟩
      | cont =>
        obtain ⟨σ6, H6, S6, q6⟩ := hsp
        exact end_ S6 fun s7 J7 => ⟨_, _, J7, q6⟩
      | ret u =>
        obtain ⟨v6, σ6, H6, S6, r6, q6⟩ := hsp
        exact end_ S6 fun s7 J7 => ⟨_, _, _, J7, r6, q6⟩
    | false =>
      show wpAny _ X.A (handleBy (.ref a) X.env []) _ _ _
      refine wpAny_handleBy_nil ?_
      obtain ⟨k1, k2, k3, oe, vs, T, oT, ts', he, hz, hd, h1, hr⟩ := id fl3'
      unfold PySem.passOn
      refine wpAny_bind (wpAny_field he hd h1 ?_)
      rw [if_neg (show ¬ ((Value.ref T == Value.none) = true) from by simp)]
      have fin : wpAny (model X.prog X.w) X.A (setFlight (.ref a) X.env.frame) (fun _ s4 => wpAny (model X.prog X.w) X.A (throw (.ref a) : Sem Flow) (SP X pins D) X.xe s4) X.xe { s' with heap := h3' } := by
        rw [hf]
        refine HandSPX.setFlight_upZ fl3' fun h4 hh4 up4 => wpAny_throw (tk _ _ ?_)
        exact ⟨a, B, sI, pins, σ', H', cls, d, rfl, JI, nb, (up.trans up3').trans up4, .inr (.inr (by rw [hs]; exact hh4)), na, os, ag, hno rfl⟩
      first
        | exact wpAny_bind (wpAny_pure (wpAny_bind fin))
        | exact wpAny_bind fin
  · cases f with
    | next =>
      obtain ⟨σ', H', J', q⟩ := hsp
      exact wpAny_execs_nil ⟨σ', H', J'.ofTry ok, q⟩
    | brk =>
      obtain ⟨σ', H', J', q⟩ := hsp
      exact ⟨σ', H', J'.ofTry ok, q⟩
    | cont =>
      obtain ⟨σ', H', J', q⟩ := hsp
      exact ⟨σ', H', J'.ofTry ok, q⟩
    | ret u =>
      obtain ⟨v, σ', H', J', r, q⟩ := hsp
      exact ⟨v, σ', H', J'.ofTry ok, r, q⟩
end
end PT
end
section
set_option linter.all false
set_option maxRecDepth 100000
set_option maxHeartbeats 4000000
/-! PtXE: try .. except .. as n by readings. -/
namespace PT
open PySem PySem.Spec PyProof.Rows L2

section
variable {X : Cx} {x x1 x2 x3 : String} {c c1 c2 c3 : V} {u u1 u2 u3 : Value} {p p1 p2 p3 : Pos} {k : Nat}
theorem ld_nam {x : String} {c : V} {u : Value} {p : Pos} {pins : List (Addr × Obj)} {σ : L2.St} {H : Hp} {s : Shared} {Q : Value → Shared → Prop} {E : Value → Shared → Prop} (I : Inv X pins σ H s) (nc : NamC X.mg x c u) (hg : Gl X (Str.ofString x)) (hd : (Str.ofString x == ("__debug__" : Str)) = false) (q : Q u s) :
    wpAny (model X.prog X.w) X.A (eval (.Name (Str.ofString x) p) X.env) Q E s := by
  rcases nc with ⟨C, hm, rfl, rfl⟩ | ⟨hm, hb, hn, rfl, rfl⟩
  · exact ld_glob I hg hm q hd
  · exact ld_blt I hg hm hb q hn hd
theorem looks_ty {h : Heap} {a : Addr} {oe : Obj} (he : h.get? a = some oe) : PySem.W.Looks (model X.prog X.w) h (typeOf (.ref a)) oe.cls := fun A Q E s k q => wpAny_typeOf_ref (k _ _ he) q
/-- except C -/
theorem xtest_1 (nc : NamC X.mg x c u) (hg : Gl X (Str.ofString x)) (hd : (Str.ofString x == ("__debug__" : Str)) = false) : XTest X (.Name (Str.ofString x) p) (fun cls => PySem.W.exmOne X.K cls u) := by
  intro a oe pn σ H s cls b Q E S he hcls ht k
  subst hcls
  exact ld_nam (X := X.suite a ((a, oe) :: pn)) S nc hg hd (k s.heap (fun _ _ z => z) u (PySem.W.exm_one (M := model X.prog X.w) S.kIn (looks_ty he) ht))
/-- except (C1, C2, C3) -/
theorem xtest_3 (n1 : NamC X.mg x1 c1 u1) (n2 : NamC X.mg x2 c2 u2) (n3 : NamC X.mg x3 c3 u3) (g1 : Gl X (Str.ofString x1)) (g2 : Gl X (Str.ofString x2)) (g3 : Gl X (Str.ofString x3)) (d1 : (Str.ofString x1 == ("__debug__" : Str)) = false) (d2 : (Str.ofString x2 == ("__debug__" : Str)) = false) (d3 : (Str.ofString x3 == ("__debug__" : Str)) = false) :
    XTest X (.Tuple [.Name (Str.ofString x1) p1, .Name (Str.ofString x2) p2, .Name (Str.ofString x3) p3] k p) (fun cls => PySem.W.exmAny X.K cls [u1, u2, u3]) := by
  intro a oe pn σ H s cls b Q E S he hcls ht kk
  subst hcls
  refine wpAny_Tuple_spliced ?_
  show wpAny _ _ (spliced [(false, eval (.Name (Str.ofString x1) p1) X.env), (false, eval (.Name (Str.ofString x2) p2) X.env), (false, eval (.Name (Str.ofString x3) p3) X.env)]) _ _ _
  refine Calls.spliced_cons (ld_nam (X := X.suite a ((a, oe) :: pn)) S n1 g1 d1 ?_)
  refine Calls.spliced_cons (ld_nam (X := X.suite a ((a, oe) :: pn)) S n2 g2 d2 ?_)
  refine Calls.spliced_cons (ld_nam (X := X.suite a ((a, oe) :: pn)) S n3 g3 d3 ?_)
  refine Calls.spliced_nil ⟨by show 3 ≤ sizeLine; decide, ?_⟩
  have k2 : ∀ c o, s.heap.get? c = some o → (s.heap.push { cls := .type "tuple", data := .seq [u1, u2, u3].toArray }).get? c = some o := fun c o z => Heap.get?_push_of_some _ z
  exact kk _ k2 _ (PySem.W.exm_tup3 (M := model X.prog X.w) (S.kIn.keeps k2) (looks_ty (k2 _ _ he)) (Heap.get?_push_size _ rfl) ht)
end
/-- the classes of a clause, by their names -/
def subU (K : PySem.W.Frag) (mg : Str → Option Value) (c : Cfg) (cs : List String) (tst : Value → Option Bool) : Prop := ∀ t b, subAny c t cs = some b → ∀ C, mg (Str.ofString t) = some (.ref C) → tst (.ref C) = some b
section
variable {K : PySem.W.Frag} {mg : Str → Option Value} {c : Cfg}
theorem sub_cons {t y : String} {ys : List String} {b : Bool} (e : subAny c t (y :: ys) = some b) : ∃ b1 b2, c.sub t y = some b1 ∧ subAny c t ys = some b2 ∧ b = (b1 || b2) := by
  unfold subAny at e
  split at e
  · rename_i b1 b2 e1 e2
    cases e
    exact ⟨b1, b2, e1, e2, rfl⟩
  · cases e
theorem subU_1 {x : String} {cv : V} {u : Value} (sf : SubF K mg c.sub) (nc : NamC mg x cv u) : subU K mg c [x] (fun cls => PySem.W.exmOne K cls u) := by
  intro t b e C hC
  obtain ⟨b1, b2, e1, e2, rfl⟩ := sub_cons e
  cases e2
  obtain ⟨c', u', nc', hk⟩ := sf.ok _ _ _ e1
  obtain ⟨_, rfl⟩ := nc.det nc'
  show PySem.W.exmOne K (.ref C) u = some (b1 || false)
  rw [(hk C hC).2, Bool.or_false]
theorem exmAny_of {cls u : Value} {us : List Value} {b1 b2 : Bool} (h1 : PySem.W.exmOne K cls u = some b1) (h2 : PySem.W.exmAny K cls us = some b2) : PySem.W.exmAny K cls (u :: us) = some (b1 || b2) := by
  show (match PySem.W.exmOne K cls u, PySem.W.exmAny K cls us with | some b, some d => some (b || d) | _, _ => none) = _
  rw [h1, h2]
theorem subU_3 {x1 x2 x3 : String} {c1 c2 c3 : V} {u1 u2 u3 : Value} (sf : SubF K mg c.sub) (n1 : NamC mg x1 c1 u1) (n2 : NamC mg x2 c2 u2) (n3 : NamC mg x3 c3 u3) : subU K mg c [x1, x2, x3] (fun cls => PySem.W.exmAny K cls [u1, u2, u3]) := by
  intro t b e C hC
  obtain ⟨b1, b1', e1, e1', rfl⟩ := sub_cons e
  obtain ⟨b2, b2', e2, e2', rfl⟩ := sub_cons e1'
  obtain ⟨b3, b3', e3, e3', rfl⟩ := sub_cons e2'
  cases e3'
  obtain ⟨_, _, m1, k1⟩ := sf.ok _ _ _ e1
  obtain ⟨_, rfl⟩ := n1.det m1
  obtain ⟨_, _, m2, k2⟩ := sf.ok _ _ _ e2
  obtain ⟨_, rfl⟩ := n2.det m2
  obtain ⟨_, _, m3, k3⟩ := sf.ok _ _ _ e3
  obtain ⟨_, rfl⟩ := n3.det m3
  exact exmAny_of (k1 C hC).2 (exmAny_of (k2 C hC).2 (exmAny_of (k3 C hC).2 rfl))
end
section
variable {X : Cx} {Wout : WX} {te : Expr} {tst : Value → Option Bool} {n : Str} {i : Nat} {body suite : List Stmt} {b₀ : Stmt} {pos pos' : Pos} {wb : WS0} {ws : Nat → WS0} {c : Cfg} {cs : List String}
theorem gs_tryx (hs : X.stack = X.env :: X.outer) (hex : X.ex = []) (hf : X.env.frame = some X.env.locals) (hN : X.N.Nodup) (hi : X.N[i]? = some n) (hln : X.env.kindOf n = some .local) (hc : XTest X te tst) (hu : subU X.K X.mg c cs tst) (tk : L2N.Takes X Wout)
    (hb : ∀ (W : WX) (pn : List (Addr × Obj)) (xe : Value → Shared → Prop), L2N.Takes (X.tr pn xe) W → PassesOwn (model X.prog X.w) X.A X.env xe → PSs (X.tr pn xe) body (RdS X W wb))
    (hsu : ∀ (a : Addr) (pn : List (Addr × Obj)), PSs (X.suite a pn) (b₀ :: suite) (RdS X W0 (ws a))) :
    PS X (.Try body [.ExceptHandler (some te) (some n) (b₀ :: suite) pos'] [] [] pos) (RdS X Wout fun ρ m K => wb ρ m { nx := K.nx, rt := K.rt, bk := K.bk, ct := K.ct, xc := fun ρ' x m' => getw (subAny c x.c cs) fun b =>
      if b = true then (∀ a : Nat, ws a (put ρ' i (some (x.d a))) m' { nx := fun ρ2 => K.nx (put ρ2 i none), rt := K.rt, bk := fun ρ2 => K.bk (put ρ2 i none), ct := fun ρ2 => K.ct (put ρ2 i none), xc := fun _ => noX }) else K.xc ρ' x m' }) := by
  refine PS.imp (ps_tryT (tb := fun W => RdS X W wb) (ts := fun a => RdS X W0 (ws a)) hs hex hf hN hi hln hc tk hb hsu) fun D σ H ⟨ρ, m, F, K, A, h, g⟩ => ⟨ρ, m, F, _, A, h, g.nx, g.rt, g.bk, g.ct, ?_⟩
  intro ρ' m' F' σ' H' x cls dd e A' n r
  obtain ⟨⟨C, k, rfl⟩, us, rr, xd⟩ := r
  obtain ⟨b, eb, q⟩ := getw_iff.mp e
  refine ⟨b, hu _ _ eb C k.1, fun hb' a oe na zn hd => ?_, fun hb' => ?_⟩
  · subst hb'
    rw [if_pos rfl] at q
    obtain ⟨vs, hd⟩ := hd
    have n2 : Nx X.K X.mg m' F' H' m' (addF F' a) (upd H' a (exq a oe)) := .add A'.rel na
    have rep : Rep X.K X.mg (addF F' a) (upd H' a (exq a oe)) (x.d a) (.ref a) :=
      ⟨rfl, .inl rfl, oe, C, us, upd_same, k, ⟨zn.1, vs, hd, zn.2.2 vs hd⟩, Reps.ext n2.ext _ _ rr, by rw [zn.2.1]; exact xd.ext n2.ext⟩
    have w1 : ∀ {ρ2 m2 F2 σ2 H2}, At X ρ2 m2 F2 σ2 H2 → At X (put ρ2 i none) m2 F2 (σ2.set i none) H2 := fun {ρ2 m2 F2 σ2 H2} B => ⟨B.env.wiped [i], B.rel⟩
    refine ⟨put ρ' i (some (x.d a)), m', addF F' a, _, ⟨((A'.nx n2).env).put i rep, n2.rel⟩, q a, fun ρ2 m2 F2 σ2 H2 q2 A2 n3 => g.nx _ _ _ _ _ q2 (w1 A2) ((n.trans n2).trans n3), (g.rt.nx (n.trans n2)), fun ρ2 m2 F2 σ2 H2 q2 A2 n3 => g.bk _ _ _ _ _ q2 (w1 A2) ((n.trans n2).trans n3), fun ρ2 m2 F2 σ2 H2 q2 A2 n3 => g.ct _ _ _ _ _ q2 (w1 A2) ((n.trans n2).trans n3), fun _ _ _ _ _ _ _ _ z => z.elim⟩
  · subst hb'
    rw [if_neg (by decide)] at q
    exact g.xc _ _ _ _ _ _ _ _ q A' n ⟨⟨C, k, rfl⟩, us, rr, xd⟩
end
end PT
end
section
set_option linter.all false
set_option maxRecDepth 100000
set_option maxHeartbeats 4000000
/-! PtP: the check of statements, its soundness, defs. -/
namespace PT
open PySem PySem.Spec PyProof.Rows L2

def isTupE : Expr → Bool
  | .Tuple .. => true
  | _ => false
def starB : Expr → Bool
  | .Starred .. => true
  | _ => false
def nmOf (sc : Scope) (line : Nat) : Expr → Option Str
  | .Name id pos => if (sc.names.lookup id == some .local && pos.line == line) = true then some id else none
  | _ => none
/-- what swappedStores says of (ts) = (vs) in a def's body -/
def swE (ts vs : List Expr) (sc : Scope) : Option (Option (List Str)) :=
  if (!(ts.length == 2 || ts.length == 3) || vs.length != ts.length || (if sc.kind.isAnnotationScope then ScopeKind.function else sc.kind) != .function) = true then some none
  else if vs.any starB = true then some none
  else
    let names := ts.filterMap (nmOf sc ((ts.head?.map (·.pos.line)).getD 0))
    if (names.length != ts.length || names.eraseDups.length != names.length) = true then some none
    else if vs.all (foldedForSure 8) = true then some none
    else if vs.all (constantsAlone 8) = true then none
    else some (some names)
theorem star_eq : (fun x : Expr => match x with | .Starred .. => true | _ => false) = starB := by funext x; cases x <;> rfl
theorem nm_eq (env : Env) (line : Nat) : (fun x : Expr => match x with | .Name id pos => if (env.kindOf id == some .local && pos.line == line) = true then some id else none | _ => none) = nmOf env.scope line := by
  funext x; cases x <;> rfl
theorem swE_ok {ts vs : List Expr} {env : Env} {r : Option (List Str)} {k k2 p p2} (h : swE ts vs env.scope = some r) : swappedStores [.Tuple ts k p] (.Tuple vs k2 p2) env = pure r := by
  have e : swappedStores [.Tuple ts k p] (.Tuple vs k2 p2) env =
    if (!(ts.length == 2 || ts.length == 3) || vs.length != ts.length || env.blockKind != .function) = true then pure none
    else if vs.any (fun x : Expr => match x with | .Starred .. => true | _ => false) = true then pure none
    else if ((ts.filterMap (fun x : Expr => match x with | .Name id pos => if (env.kindOf id == some .local && pos.line == ((ts.head?.map (·.pos.line)).getD 0)) = true then some id else none | _ => none)).length != ts.length || (ts.filterMap (fun x : Expr => match x with | .Name id pos => if (env.kindOf id == some .local && pos.line == ((ts.head?.map (·.pos.line)).getD 0)) = true then some id else none | _ => none)).eraseDups.length != (ts.filterMap (fun x : Expr => match x with | .Name id pos => if (env.kindOf id == some .local && pos.line == ((ts.head?.map (·.pos.line)).getD 0)) = true then some id else none | _ => none)).length) = true then pure none
    else if vs.all (foldedForSure 8) = true then pure none
    else if vs.all (constantsAlone 8) = true then (do unsupported "assign.tuple-of-constant-expressions:order-of-the-stores"; pure (some (ts.filterMap (fun x : Expr => match x with | .Name id pos => if (env.kindOf id == some .local && pos.line == ((ts.head?.map (·.pos.line)).getD 0)) = true then some id else none | _ => none))))
    else pure (some (ts.filterMap (fun x : Expr => match x with | .Name id pos => if (env.kindOf id == some .local && pos.line == ((ts.head?.map (·.pos.line)).getD 0)) = true then some id else none | _ => none))) := by rfl
  rw [e, star_eq, nm_eq]
  unfold swE at h
  have e3 : env.blockKind = (if env.scope.kind.isAnnotationScope then ScopeKind.function else env.scope.kind) := rfl
  rw [e3]
  generalize (!(ts.length == 2 || ts.length == 3) || vs.length != ts.length || (if env.scope.kind.isAnnotationScope then ScopeKind.function else env.scope.kind) != .function) = b1 at h ⊢
  generalize vs.any starB = b2 at h ⊢
  dsimp only at h
  generalize ts.filterMap (nmOf env.scope ((ts.head?.map (·.pos.line)).getD 0)) = ns at h ⊢
  generalize (ns.length != ts.length || ns.eraseDups.length != ns.length) = b3 at h ⊢
  generalize vs.all (foldedForSure 8) = b4 at h ⊢
  generalize vs.all (constantsAlone 8) = b5 at h ⊢
  cases b1 <;> cases b2 <;> cases b3 <;> cases b4 <;> cases b5 <;> first | (cases h; rfl) | (simp at h; subst h; rfl) | (simp at h)
/-- what swapsWith says of name = [..] -/
def swC (sc : Scope) (y : Str) (py : Pos) (scope : Scope) (vp : Pos) : Bool :=
  (if sc.kind.isAnnotationScope then ScopeKind.function else sc.kind) == .function && sc.names.lookup y == some .local && py.line == vp.line && !(scope.names.any fun (n, k) => n == y && (k == .local || k == .cell))
theorem swC_ok {elt : Expr} {gs : List Comprehension} {scope : Scope} {pos py : Pos} {y : Str} {l : Nat} {env : Env} : swapsWith (.ListComp elt gs scope pos) (some (.Name y py)) l env = pure (swC env.scope y py scope pos) := by
  rfl
theorem sw_no {e : Expr} {t : Option Expr} {l : Nat} {env : Env} (h : notComp e = true) : swapsWith e t l env = pure false := by
  cases e <;> first | rfl | cases h
/-- the slots of some names -/
def ixB (N : List Str) (sc : Scope) : List Nat → List Expr → Bool
  | [], [] => true
  | i :: is, .Name x _ :: es => decide (N[i]? = some x) && lclB sc x && ixB N sc is es
  | _, _ => false
def isCmp : Ex → Bool
  | .comp .. => true
  | _ => false
/-- the classes of an except clause -/
def ckT (c : Cks) (sc : Scope) (cs : List String) (te : Expr) : Bool := match te with
  | .Name x _ => (match cs with | [y] => strB y x && glB sc x && dbgB x && (c.sub y y).isSome | _ => false)
  | .Tuple [.Name x1 _, .Name x2 _, .Name x3 _] _ _ => (match cs with | [y1, y2, y3] => strB y1 x1 && glB sc x1 && dbgB x1 && (c.sub y1 y1).isSome && (strB y2 x2 && glB sc x2 && dbgB x2 && (c.sub y2 y2).isSome) && (strB y3 x3 && glB sc x3 && dbgB x3 && (c.sub y3 y3).isSome) | _ => false)
  | _ => false
def tstB : Expr → Bool
  | .Name .. => true
  | .Call .. => true
  | .Subscript .. => true
  | .Attribute .. => true
  | _ => false
/-- names, the last one starred -/
def starT (N : List Str) (sc : Scope) (j : Nat) : List Nat → List Expr → Bool
  | [], es => match es with | [.Starred (.Name x _) _] => decide (N[j]? = some x) && lclB sc x | _ => false
  | i :: is, es => match es with | .Name x _ :: es => decide (N[i]? = some x) && lclB sc x && starT N sc j is es | _ => false
section
variable (c : Cks) (N : List Str) (sc : Scope)
mutual
def ckS (fs : List (String × CS)) : St → Stmt → Bool
  | .asg t x, st => match st with
    | .Assign [tg] v _ => (match tg with
      | .Name y py => ckG N sc t tg && ckE c N fs x sc v && (notComp v || (match v with | .ListComp _ _ scope vp => decide (swC sc y py scope vp = true) && isCmp x && (match t with | .nm _ => true | _ => false) && lclB sc y || decide (swC sc y py scope vp = false) | _ => false))
      | .Tuple ts _ _ => !hotB fs && ckG N sc t tg && ckE c N fs x sc v && (match v with | .Tuple vs _ _ => decide (swE ts vs sc = some none) | .SetComp .. => false | .DictComp .. => false | _ => true)
      | _ => false)
    | _ => false
  | .par is xs, st => match st with
    | .Assign [.Tuple ts _ _] (.Tuple vs _ _) _ => !hotB fs && (decide (is.length = 2) || decide (is.length = 3)) && decide is.Nodup && decide (vs.length = is.length) && ixB N sc is ts && decide (swE ts vs sc = some (some (is.map fun i => N.getD i ⟨#[]⟩))) && ckEs c N fs xs sc vs
    | _ => false
  | .star is j x, st => match st with
    | .Assign [.Tuple ts _ _] v _ => !hotB fs && starT N sc j is ts && tstB v && ckE c N fs x sc v
    | _ => false
  | .seti o i x, st => match st with
    | .Assign [.Subscript a b _] v _ => plainE b && notComp v && ckE c N fs o sc a && ckE c N fs i sc b && ckE c N fs x sc v
    | _ => false
  | .seta o f x, st => match st with
    | .Assign [.Attribute a y _] v _ => strB f y && notComp v && ckE c N fs o sc a && ckE c N fs x sc v
    | _ => false
  | .auga o f op x, st => match st with
    | .AugAssign (.Attribute a y _) q v _ => strB f y && binQ op q && ckE c N fs o sc a && ckE c N fs x sc v
    | _ => false
  | .aug i op x, st => match st with
    | .AugAssign (.Name y _) o v _ => binQ op o && decide (N[i]? = some y) && locB sc y && ckE c N fs x sc v
    | _ => false
  | .expr x, st => match st with
    | .Expr v _ => notComp v && ckE c N fs x sc v
    | _ => false
  | .ret x, st => match st with
    | .Return (some v) _ => ckE c N fs x sc v
    | .Return none _ => (match x with | .lit .non => true | _ => false)
    | _ => false
  | .ite d a b, st => match st with
    | .If z p q _ => ckE c N fs d sc z && ckSs fs a p && ckSs fs b q
    | _ => false
  | .for_ t k es body, st => match st with
    | .For tg it b [] _ => !hotB fs && plainE it && ckI (fun as => ckEs c N fs es sc as) es.length k sc it tg && ckG N sc t tg && ckSs fs body b
    | _ => false
  | .while_ d body, st => match st with
    | .While z b [] _ => ckE c N fs d sc z && ckSs fs body b
    | _ => false
  | .pass, st => match st with | .Pass _ => true | _ => false
  | .brk, st => match st with | .Break _ => true | _ => false
  | .cont, st => match st with | .Continue _ => true | _ => false
  | .never, _ => true
  | .raise f es, st => match st with
    | .Raise (some (.Call (.Name x _) (a :: as) [] _)) none _ => !hotB fs && strB f x && glB sc x && dbgB x && (c.exn f).isSome && decide (es.length ≤ 1000) && ckEs c N fs es sc (a :: as)
    | _ => false
  | .tryx body cs i suite, st => match st with
    | .Try b [.ExceptHandler (some te) (some n) (s0 :: ss) _] [] [] _ => !hotB fs && decide (N[i]? = some n) && lclB sc n && ckT c sc cs te && ckSs fs body b && ckSs (heatF fs) suite (s0 :: ss)
    | _ => false
termination_by structural x => x
def ckSs (fs : List (String × CS)) : List St → List Stmt → Bool
  | [], ss => match ss with | [] => true | _ => false
  | x :: xs, ss => match ss with | s :: ss => ckS fs x s && ckSs fs xs ss | _ => false
termination_by structural x => x
end
end
structure OkS (X : Cx) (W : WX) (c : Cfg) (fs : List (String × CS)) (j : Nat) (N : List Str) (sc : Scope) : Prop where
  e : OkE X W c fs j N sc
  pass : PassesOwn (model X.prog X.w) X.A X.env X.xe
  ex : X.ex = []
  stk : X.stack = X.env :: X.outer
  frm : X.env.frame = some X.env.locals
  fn : ∀ x, X.fn x = true
section
variable {X : Cx} {W : WX} {c : Cfg} {fs : List (String × CS)} {j : Nat} {N : List Str} {sc : Scope}
/-- name = [..] -/
theorem gs_setLc (ok : OkE X W c fs j N sc) {i : Nat} {y : Str} {py spos : Pos} {x : Ex} {el : Expr} {gs : List Comprehension} {scope : Scope} {pos : Pos} (hi : N[i]? = some y) (hyl : lclB sc y = true) (hsw : swC sc y py scope pos = true)
    (hcx : isCmp x = true) (h : ckE c.ks N fs x sc (.ListComp el gs scope pos) = true) :
    PS X (.Assign [.Name y py] (.ListComp el gs scope pos) spos) (RdS X W fun ρ m K => wpE c x ρ m (fun d m1 => getw (tgD (.nm i) d ρ) fun ρ' => K.nx ρ' m1) (K.xc ρ)) := by
  cases x with
  | comp elt tg k es ifs own mu =>
    unfold ckE at h
    split at h
    · rename_i el2 t itx fl scope2 pos2 eq
      injection eq with q1 q2 q3 q4
      subst q1 q2 q3 q4
      simp only [Bool.and_eq_true] at h
      obtain ⟨⟨⟨⟨⟨⟨⟨⟨⟨h0, h1⟩, h2⟩, h3⟩, h4⟩, h5⟩, h6⟩, h7⟩, h8⟩, h9⟩ := h
      have hb : hotB fs = false := by simpa using h0
      have pi := so_pi ok (fun as ha => so_Es es ok as ha) (fun e he => (so_1 es ok e he).imp fun x z => ⟨z.1, z.2.1⟩) h9
      have bk : BlkOk X.N X.env.scope scope (own.map fun i => (N.getD i ⟨#[]⟩, i)) := by rw [ok.hN, ok.sc]; exact blkOk_by h4
      have pl := ps_setLc (i := i) (y := y) (py := py) (spos := spos) (elt := el) (ifs := fl) (pos := pos) (g := RdG X tg) (tt := RdT X W0 fun ρ m K _ => wpTs c ifs ρ m K) (te := RdE X W0 (wpE c elt)) (ok.calm hb) (by rw [ok.hN]; exact ok.nd) (by rw [ok.hN]; exact hi) (by rw [ok.sc]; exact lclB_of hyl)
        (by rw [swC_ok, ok.sc, hsw]) pi bk
        (fun s H C cl fp => by
          have o2 := ok.blk s H C cl fp scope
          refine so_G (X := X.blk s H scope (compEnvC scope cl C X.env) fp) o2.hN o2.nd (o2.calm hb) (so := scope) (fun x hx => ?_) tg t h5
          rcases hx with hx | hx
          · have q : (relS scope X.env.scope).names.lookup x = some .local := rel_local (scope := scope) hx (by simp)
            exact ⟨.inl q, .inr q⟩
          · have q : (relS scope X.env.scope).names.lookup x = some .cell := rel_local (scope := scope) hx (by simp)
            exact ⟨.inr q, .inl (by show (scope.names.lookup x == some NameKind.cell) = true; rw [hx]; rfl)⟩)
        (fun s H C cl fp => so_Ts ifs (ok.blk s H C cl fp scope) fl h8 (of_decide_eq_true h7)) (fun s H C cl fp => (so_E elt (ok.blk s H C cl fp scope) el h6).1) (fun x => fold_plain h1 x)
      rw [map_own] at pl
      refine PS.imp pl fun D σ H ⟨ρ, m, F, K, A, hw, g⟩ => lc_read (W := W) (mu := mu) (wt := fun ρ m K _ => wpTs c ifs ρ m K) h2 ?_
      exact rd1 (X := X) (W := W) (wa := wpE c (.comp elt tg k es ifs own mu)) A hw (g.gx A) fun d m1 F1 v H1 q n r => g.nx _ _ _ _ _ q ⟨(A.nx n).env.put i r, n.rel⟩ n
    · cases h
  | _ => cases hcx
theorem swS_eq {tg e : Expr} {l : Nat} {env : Env} : swapsWithSole [tg] e l env = swapsWith e (some tg) l env := rfl
theorem OkS.lo (ok : OkS X W c fs j N sc) : ∀ x, Loc sc x → Loc X.env.scope x ∧ (X.fn x = true ∨ X.env.scope.names.lookup x = some .local) := fun x h => ⟨by rw [ok.e.sc]; exact h, .inl (ok.fn x)⟩
theorem ixB_of : ∀ {is : List Nat} {es : List Expr}, ixB N sc is es = true → es.length = is.length ∧ ∀ (k i : Nat), is[k]? = some i → ∃ (x : Str) (p : Pos), es[k]? = some (Expr.Name x p) ∧ N[i]? = some x ∧ lclB sc x = true
  | [], [], _ => ⟨rfl, fun k i h => by simp at h⟩
  | [], _ :: _, h => by cases h
  | i :: is, [], h => by cases h
  | i :: is, e :: es, h => by
    cases e with
    | Name x p =>
      have h : (decide (N[i]? = some x) && lclB sc x && ixB N sc is es) = true := h
      simp only [Bool.and_eq_true] at h
      obtain ⟨i1, i2⟩ := ixB_of h.2
      refine ⟨by rw [List.length_cons, List.length_cons, i1], fun k z hk => ?_⟩
      cases k with
      | zero => cases hk; exact ⟨x, p, rfl, of_decide_eq_true h.1.1, h.1.2⟩
      | succ k => exact i2 k z hk
    | _ => cases h
theorem sc_par (ok : OkS X W c fs j N sc) {is : List Nat} {xs : List Ex} {st : Stmt} (h : ckS c.ks N sc fs (.par is xs) st = true) : PS X st (RdS X W (wpS c (.par is xs))) := by
  unfold ckS at h
  split at h
  · rename_i ts k p vs k2 p2 pos
    simp only [Bool.and_eq_true, Bool.or_eq_true, decide_eq_true_eq] at h
    obtain ⟨⟨⟨⟨⟨⟨h0, h1⟩, h2⟩, vl⟩, h3⟩, h4⟩, h5⟩ := h
    have hb : hotB fs = false := by simpa using h0
    obtain ⟨l1, ix⟩ := ixB_of h3
    have pa := so_Es xs ok.e vs h5
    have pl := (plains_of h5).2
    have sw : swappedStores [.Tuple ts k p] (.Tuple vs k2 p2) X.env = pure (some (is.map fun i => N.getD i ⟨#[]⟩)) := swE_ok (by rw [ok.e.sc]; exact h4)
    have gd : ∀ {i : Nat} {x : Str}, N[i]? = some x → N.getD i ⟨#[]⟩ = x := fun {i x} e => by rw [List.getD_eq_getElem?_getD, e]; rfl
    rcases h1 with h1 | h1
    · obtain ⟨i, j', rfl⟩ : ∃ a b, is = [a, b] := by
        match is, h1 with
        | [a, b], _ => exact ⟨a, b, rfl⟩
      obtain ⟨t1, t2, rfl⟩ : ∃ a b, ts = [a, b] := by
        match ts, l1 with
        | [a, b], _ => exact ⟨a, b, rfl⟩
      obtain ⟨v1, v2, rfl⟩ : ∃ a b, vs = [a, b] := by
        match vs, vl with
        | [a, b], _ => exact ⟨a, b, rfl⟩
      obtain ⟨x, px, e1, n1, c1⟩ := ix 0 i rfl
      obtain ⟨y, py, e2, n2, c2⟩ := ix 1 j' rfl
      have f1 : t1 = .Name x px := Option.some.inj e1
      subst f1
      have f2 : t2 = .Name y py := Option.some.inj e2
      subst f2
      have sw : swappedStores [.Tuple [.Name x px, .Name y py] k p] (.Tuple [v1, v2] k2 p2) X.env = pure (some [x, y]) := by rw [sw]; simp only [List.map_cons, List.map_nil, gd n1, gd n2]
      rw [pl] at pa
      have ne : i ≠ j' := by simpa using h2
      exact gs_par2 (ok.e.calm hb) (by rw [ok.e.hN]; exact ok.e.nd) (by rw [ok.e.hN]; exact n1) (by rw [ok.e.hN]; exact n2) ne (by rw [ok.e.sc]; exact lclB_of c1) (by rw [ok.e.sc]; exact lclB_of c2) pa sw rfl
    · obtain ⟨i, j', l, rfl⟩ : ∃ a b d, is = [a, b, d] := by
        match is, h1 with
        | [a, b, d], _ => exact ⟨a, b, d, rfl⟩
      obtain ⟨t1, t2, t3, rfl⟩ : ∃ a b d, ts = [a, b, d] := by
        match ts, l1 with
        | [a, b, d], _ => exact ⟨a, b, d, rfl⟩
      obtain ⟨v1, v2, v3, rfl⟩ : ∃ a b d, vs = [a, b, d] := by
        match vs, vl with
        | [a, b, d], _ => exact ⟨a, b, d, rfl⟩
      obtain ⟨x, px, e1, n1, c1⟩ := ix 0 i rfl
      obtain ⟨y, py, e2, n2, c2⟩ := ix 1 j' rfl
      obtain ⟨z, pz, e3, n3, c3⟩ := ix 2 l rfl
      have f1 : t1 = .Name x px := Option.some.inj e1
      subst f1
      have f2 : t2 = .Name y py := Option.some.inj e2
      subst f2
      have f3 : t3 = .Name z pz := Option.some.inj e3
      subst f3
      have sw : swappedStores [.Tuple [.Name x px, .Name y py, .Name z pz] k p] (.Tuple [v1, v2, v3] k2 p2) X.env = pure (some [x, y, z]) := by rw [sw]; simp only [List.map_cons, List.map_nil, gd n1, gd n2, gd n3]
      rw [pl] at pa
      have ne : (i ≠ j' ∧ i ≠ l) ∧ j' ≠ l := by simpa using h2
      exact gs_par3 (ok.e.calm hb) (by rw [ok.e.hN]; exact ok.e.nd) (by rw [ok.e.hN]; exact n1) (by rw [ok.e.hN]; exact n2) (by rw [ok.e.hN]; exact n3) ne.1.1 ne.1.2 ne.2 (by rw [ok.e.sc]; exact lclB_of c1) (by rw [ok.e.sc]; exact lclB_of c2) (by rw [ok.e.sc]; exact lclB_of c3) pa sw rfl
  · cases h
end
end PT
end
section
set_option linter.all false
set_option maxRecDepth 100000
set_option maxHeartbeats 4000000
/-! PtQ: soundness of the check of statements; a def by its small syntax. -/
namespace PT
open PySem PySem.Spec PyProof.Rows L2

section
variable {X : Cx} {W : WX} {c : Cfg} {fs : List (String × CS)} {j : Nat} {N : List Str} {sc : Scope}
theorem sc_asg (ok : OkS X W c fs j N sc) {t : Tg} {x : Ex} {st : Stmt} (h : ckS c.ks N sc fs (.asg t x) st = true) : PS X st (RdS X W (wpS c (.asg t x))) := by
  unfold ckS at h
  split at h
  · rename_i tg v pos
    split at h
    · rename_i y py
      simp only [Bool.and_eq_true, Bool.or_eq_true] at h
      obtain ⟨⟨h1, h2⟩, h3⟩ := h
      have pv := (so_E x ok.e v h2).1
      cases t with
      | tp ts => unfold ckG at h1; cases h1
      | nm i =>
        have hg : (decide (N[i]? = some y) && locB sc y) = true := by unfold ckG at h1; exact h1
        rw [Bool.and_eq_true] at hg
        have hi := of_decide_eq_true hg.1
        have lo := ok.lo y (locB_of hg.2)
        have plain : swapsWith v (some (.Name y py)) pos.line X.env = pure false → PS X (.Assign [.Name y py] v pos) (RdS X W (wpS c (.asg (.nm i) x))) := fun sw =>
          gs_set (by rw [ok.e.hN]; exact ok.e.nd) (by rw [ok.e.hN]; exact hi) lo.1 pv sw lo.2
        rcases h3 with h3 | h3
        · exact plain (sw_no h3)
        · split at h3
          · rename_i el gs scope vp
            rw [Bool.or_eq_true] at h3
            rcases h3 with h3 | h3
            · simp only [Bool.and_eq_true, decide_eq_true_eq] at h3
              exact gs_setLc ok.e hi h3.2 h3.1.1.1 h3.1.1.2 h2
            · exact plain (by rw [swC_ok, ok.e.sc, of_decide_eq_true h3])
          · cases h3
    · rename_i ts k p
      simp only [Bool.and_eq_true] at h
      obtain ⟨⟨⟨h0, h1⟩, h2⟩, h3⟩ := h
      have hb : hotB fs = false := by simpa using h0
      have pv := (so_E x ok.e v h2).1
      have pg := so_G ok.e.hN ok.e.nd (ok.e.calm hb) ok.lo t _ h1
      refine gs_asg pv pg ?_ ?_ rfl
      · rw [swS_eq]
        cases v <;> first | rfl | cases h3
      · cases v with
        | Tuple vs k2 p2 => exact swE_ok (by rw [ok.e.sc]; exact of_decide_eq_true h3)
        | _ => rfl
    · cases h
  · cases h
theorem star_ok {i : Nat} : ∀ {is : List Nat} {es : List Expr}, OkS X W c fs j N sc → starT N sc i is es = true → ∃ es', PGs X es' (RdGs X ((is ++ [i]).map .nm)) ∧ (assignEach es X.env).map (·.2) = (assignEach es' X.env).map (·.2) ∧ (assignEach es X.env).length = is.length + 1 ∧ (assignEach es X.env).findIdx? (·.1) = some is.length
  | [], es, ok, h => by
    unfold starT at h
    split at h
    · rename_i x p1 p2
      rw [Bool.and_eq_true] at h
      have hi := of_decide_eq_true h.1
      have lo := lclB_of h.2
      have pg : PG X (.Name x p1) (RdG X (.nm i)) := gg_name (by rw [ok.e.hN]; exact ok.e.nd) (by rw [ok.e.hN]; exact hi) (.inl (by rw [ok.e.sc]; exact lo)) (.inr (by rw [ok.e.sc]; exact lo))
      exact ⟨[.Name x p1], ggs_cons pg ggs_nil rfl, rfl, rfl, rfl⟩
    · cases h
  | k :: is, es, ok, h => by
    unfold starT at h
    split at h
    · rename_i x p es2
      simp only [Bool.and_eq_true] at h
      obtain ⟨⟨h1, h2⟩, h3⟩ := h
      have hi := of_decide_eq_true h1
      have lo := lclB_of h2
      obtain ⟨es', i1, i2, i3, i4⟩ := star_ok ok h3
      have pg : PG X (.Name x p) (RdG X (.nm k)) := gg_name (by rw [ok.e.hN]; exact ok.e.nd) (by rw [ok.e.hN]; exact hi) (.inl (by rw [ok.e.sc]; exact lo)) (.inr (by rw [ok.e.sc]; exact lo))
      refine ⟨.Name x p :: es', ggs_cons pg i1 rfl, ?_, ?_, ?_⟩
      · show assign (.Name x p) X.env :: (assignEach es2 X.env).map (·.2) = assign (.Name x p) X.env :: (assignEach es' X.env).map (·.2)
        rw [i2]
      · show (assignEach es2 X.env).length + 1 = _
        rw [i3]; rfl
      · show List.findIdx? (·.1) ((false, assign (.Name x p) X.env) :: assignEach es2 X.env) = _
        rw [List.findIdx?_cons]
        simp [i4]
    · cases h
theorem sc_star (ok : OkS X W c fs j N sc) {is : List Nat} {i : Nat} {x : Ex} {st : Stmt} (h : ckS c.ks N sc fs (.star is i x) st = true) : PS X st (RdS X W (wpS c (.star is i x))) := by
  unfold ckS at h
  split at h
  · rename_i ts k p v pos
    simp only [Bool.and_eq_true] at h
    obtain ⟨⟨⟨h0, h1⟩, h2⟩, h3⟩ := h
    have hb : hotB fs = false := by simpa using h0
    obtain ⟨es', i1, i2, i3, i4⟩ := star_ok ok h1
    refine gs_star (ok.e.calm hb) (so_E x ok.e v h3).1 i1 i2 i3 i4 ?_ ?_
    · rw [swS_eq]
      cases v <;> first | rfl | cases h2
    · cases v <;> first | rfl | cases h2
  · cases h
theorem sc_raise (ok : OkS X W c fs j N sc) {f : String} {xs : List Ex} {st : Stmt} (h : ckS c.ks N sc fs (.raise f xs) st = true) : PS X st (RdS X W (wpS c (.raise f xs))) := by
  unfold ckS at h
  split at h
  · rename_i x p a as pos pos'
    simp only [Bool.and_eq_true] at h
    obtain ⟨⟨⟨⟨⟨⟨h0, h1⟩, h2⟩, h3⟩, h4⟩, h5⟩, h6⟩ := h
    have hb : hotB fs = false := by simpa using h0
    have e := strB_of h1
    subst e
    obtain ⟨ns, en⟩ := Option.isSome_iff_exists.mp h4
    have en : c.exn f = some ns := en
    obtain ⟨j2, rf⟩ := ok.e.prm.exn f ns en
    have pl := (plains_of h6).1
    have h7 : plainE a = true ∧ as.all plainE = true := by rw [List.all_cons, Bool.and_eq_true] at pl; exact pl
    refine PS.imp (gs_raise rf (ok.e.calm hb) ((ok.e.room hb).mono j2) ok.e.tk (ok.e.gl h2) (dbg_of h3).1 (so_Es xs ok.e _ h6) (star_cons h7.1) (star_plain h7.2) (of_decide_eq_true h5)) fun D σ H ⟨ρ, m, F, K, A, hw, g⟩ => ⟨ρ, m, F, K, A, ?_, g⟩
    have hw : wpEs c xs ρ m (fun ds m1 => getw (c.exn f) fun ns => ds.length = ns.length ∧ K.xc ρ ⟨f, ns.zip ds⟩ m1) (K.xc ρ) := hw
    rw [en] at hw
    exact hw
  · cases h
theorem sub_nam {sub : String → String → Option Bool} {K : PySem.W.Frag} {mg : Str → Option Value} (sf : SubF K mg sub) {x : String} (h : (sub x x).isSome = true) : ∃ cv u, NamC mg x cv u := by
  obtain ⟨b, e⟩ := Option.isSome_iff_exists.mp h
  obtain ⟨cv, u, n, _⟩ := sf.ok _ _ _ e
  exact ⟨cv, u, n⟩
theorem test_ok (ok : OkS X W c fs j N sc) {cs : List String} {te : Expr} (h : ckT c.ks sc cs te = true) : ∃ tst, XTest X te tst ∧ subU X.K X.mg c cs tst := by
  have sf := ok.e.prm.sub
  unfold ckT at h
  split at h
  · rename_i x p
    split at h
    · rename_i y
      simp only [Bool.and_eq_true] at h
      obtain ⟨⟨⟨h1, h2⟩, h3⟩, h4⟩ := h
      have e := strB_of h1
      subst e
      obtain ⟨cv, u, n⟩ := sub_nam sf h4
      exact ⟨_, xtest_1 n (ok.e.gl h2) (dbg_of h3).1, subU_1 sf n⟩
    · cases h
  · rename_i x1 p1 x2 p2 x3 p3 k p
    split at h
    · rename_i y1 y2 y3
      simp only [Bool.and_eq_true] at h
      obtain ⟨⟨⟨⟨⟨h1, h2⟩, h3⟩, h4⟩, ⟨⟨h5, h6⟩, h7⟩, h8⟩, ⟨⟨h9, h10⟩, h11⟩, h12⟩ := h
      have e := strB_of h1
      subst e
      have e := strB_of h5
      subst e
      have e := strB_of h9
      subst e
      obtain ⟨cv1, u1, n1⟩ := sub_nam sf h4
      obtain ⟨cv2, u2, n2⟩ := sub_nam sf h8
      obtain ⟨cv3, u3, n3⟩ := sub_nam sf h12
      exact ⟨_, xtest_3 n1 n2 n3 (ok.e.gl h2) (ok.e.gl h6) (ok.e.gl h10) (dbg_of h3).1 (dbg_of h7).1 (dbg_of h11).1, subU_3 sf n1 n2 n3⟩
    · cases h
  · cases h
theorem OkS.tr (ok : OkS X W c fs j N sc) {W' : WX} {pn : List (Addr × Obj)} {xe : Value → Shared → Prop} (tk : L2N.Takes (X.tr pn xe) W') (hp : PassesOwn (model X.prog X.w) X.A X.env xe) : OkS (X.tr pn xe) W' c fs j N sc :=
  ⟨⟨ok.e.prm, ok.e.pri, ok.e.hN, ok.e.nd, ok.e.sc, ok.e.calm, tk, ok.e.rmh, ok.e.cold, ok.e.hot⟩, hp, ok.ex, ok.stk, ok.frm, ok.fn⟩
theorem Prm.heat {P : Program} {w : World} {K : PySem.W.Frag} {mg : Str → Option Value} {base : Heap} (p : Prm P w K mg base c fs j) (a : Nat) : Prm P w K mg base (c.heat a) (heatF fs) j :=
  ⟨p.blt, p.glob, p.dic, (fun h => nomatch h), (fun f n hm => p.callh f n (by
    rcases List.mem_cons.mp hm with z | z
    · cases z
    · exact z)), p.sub, p.exn, p.xfld⟩
theorem PrI.heat {P : Program} {w : World} {K : PySem.W.Frag} {mg : Str → Option Value} {base : Heap} (p : PrI P w K mg base c fs j) (a : Nat) : PrI P w K mg base (c.heat a) (heatF fs) j :=
  ⟨p.fld, p.cls, (fun h => nomatch h)⟩
theorem takes_none {X : Cx} : L2N.Takes X W0 := takesN0
theorem OkS.suite (ok : OkS X W c fs j N sc) (a : Addr) (pn : List (Addr × Obj)) : OkS (X.suite a pn) W0 (c.heat a) (heatF fs) j N sc :=
  ⟨⟨ok.e.prm.heat a, ok.e.pri.heat a, ok.e.hN, ok.e.nd, ok.e.sc, (fun h => nomatch h), takesN0, ⟨ok.e.rmh.dp, ok.e.rmh.un⟩, (fun h => nomatch h), fun _ => ⟨a, rfl, rfl, rfl⟩⟩, PassesOwn.never, ok.ex, ok.stk, ok.frm, ok.fn⟩
mutual
theorem so_S : ∀ (x : St) {X : Cx} {W : WX} {c : Cfg} {fs : List (String × CS)} {sc : Scope}, OkS X W c fs j N sc → ∀ st : Stmt, ckS c.ks N sc fs x st = true → PS X st (RdS X W (wpS c x))
  | .asg t x, X, W, c, fs, sc, ok, st, h => sc_asg ok h
  | .par is xs, X, W, c, fs, sc, ok, st, h => sc_par ok h
  | .seti o i x, X, W, c, fs, sc, ok, st, h => by
    unfold ckS at h
    split at h
    · rename_i a b p v pos
      simp only [Bool.and_eq_true] at h
      obtain ⟨⟨⟨⟨h1, h2⟩, h3⟩, h4⟩, h5⟩ := h
      refine gs_seti (so_E o ok.e _ h3).1 (so_E i ok.e _ h4).1 (so_E x ok.e _ h5).1 ?_ ?_ ?_
      · rw [swS_eq]; exact sw_no h2
      · cases v <;> rfl
      · intro _
        cases b <;> first | rfl | cases h1
    · cases h
  | .seta o f x, X, W, c, fs, sc, ok, st, h => by
    unfold ckS at h
    split at h
    · rename_i a y p v pos
      simp only [Bool.and_eq_true] at h
      obtain ⟨⟨⟨h1, h2⟩, h3⟩, h4⟩ := h
      have z := strB_of h1
      subst z
      exact gs_seta (cf := fun t => c.fld t f) (fun t C h4 h5 => (ok.e.pri.fld t f h4).2 C h5) (so_E o ok.e _ h3).1 (so_E x ok.e _ h4).1 (sw_no h2)
    · cases h
  | .auga o f op x, X, W, c, fs, sc, ok, st, h => by
    unfold ckS at h
    split at h
    · rename_i a y p q v pos
      simp only [Bool.and_eq_true] at h
      obtain ⟨⟨⟨h1, h2⟩, h3⟩, h4⟩ := h
      have z := strB_of h1
      subst z
      have z := binQ_of h2
      subst z
      exact gs_auga (cf := fun t => c.fld t f) (fun t C h4 h5 => (ok.e.pri.fld t f h4).2 C h5) (fun t h4 => (ok.e.pri.fld t f h4).1) (so_E o ok.e _ h3).1 (so_E x ok.e _ h4).1
    · cases h
  | .aug i op x, X, W, c, fs, sc, ok, st, h => by
    unfold ckS at h
    split at h
    · rename_i y p o v pos
      simp only [Bool.and_eq_true] at h
      obtain ⟨⟨⟨h1, h2⟩, h3⟩, h4⟩ := h
      have z := binQ_of h1
      subst z
      have lo := ok.lo y (locB_of h3)
      exact gs_aug (by rw [ok.e.hN]; exact ok.e.nd) (by rw [ok.e.hN]; exact of_decide_eq_true h2) lo.1 (so_E x ok.e _ h4).1 lo.2
    · cases h
  | .expr x, X, W, c, fs, sc, ok, st, h => by
    unfold ckS at h
    split at h
    · rw [Bool.and_eq_true] at h
      exact gs_expr (so_E x ok.e _ h.2).1 (sw_no h.1)
    · cases h
  | .ret x, X, W, c, fs, sc, ok, st, h => by
    unfold ckS at h
    split at h
    · exact gs_ret (so_E x ok.e _ h).1
    · split at h
      · exact gs_retN
      · cases h
    · cases h
  | .ite d a b, X, W, c, fs, sc, ok, st, h => by
    unfold ckS at h
    split at h
    · simp only [Bool.and_eq_true] at h
      obtain ⟨⟨h1, h2⟩, h3⟩ := h
      exact gs_if (so_E d ok.e _ h1).2 (so_Ss a ok _ h2) (so_Ss b ok _ h3)
    · cases h
  | .for_ t k es body, X, W, c, fs, sc, ok, st, h => by
    unfold ckS at h
    split at h
    · rename_i tg it b pos
      simp only [Bool.and_eq_true] at h
      obtain ⟨⟨⟨⟨h0, h1⟩, h2⟩, h3⟩, h4⟩ := h
      have hb : hotB fs = false := by simpa using h0
      have pi := so_pi ok.e (fun as ha => so_Es es ok.e as ha) (fun e he => (so_1 es ok.e e he).imp fun x z => ⟨z.1, z.2.1⟩) h2
      exact gs_for ok.pass (ok.e.calm hb) pi (so_G ok.e.hN ok.e.nd (ok.e.calm hb) ok.lo t _ h3) (so_Ss body ok _ h4) (fun x => fold_plain h1 x)
    · cases h
  | .while_ d body, X, W, c, fs, sc, ok, st, h => by
    unfold ckS at h
    split at h
    · simp only [Bool.and_eq_true] at h
      exact gs_while ok.pass (so_E d ok.e _ h.1).2 (so_Ss body ok _ h.2)
    · cases h
  | .pass, X, W, c, fs, sc, ok, st, h => by
    unfold ckS at h
    split at h
    · exact gs_pass
    · cases h
  | .brk, X, W, c, fs, sc, ok, st, h => by
    unfold ckS at h
    split at h
    · exact gs_brk
    · cases h
  | .cont, X, W, c, fs, sc, ok, st, h => by
    unfold ckS at h
    split at h
    · exact gs_cont
    · cases h
  | .never, X, W, c, fs, sc, ok, st, h => gs_never
  | .star is i x, X, W, c, fs, sc, ok, st, h => sc_star ok h
  | .raise f xs, X, W, c, fs, sc, ok, st, h => sc_raise ok h
  | .tryx body cs i suite, X, W, c, fs, sc, ok, st, h => by
    unfold ckS at h
    split at h
    · rename_i b te n s0 ss p pos
      simp only [Bool.and_eq_true] at h
      obtain ⟨⟨⟨⟨⟨h0, h1⟩, h2⟩, h3⟩, h4⟩, h5⟩ := h
      obtain ⟨tst, xt, xu⟩ := test_ok ok h3
      exact gs_tryx (ws := fun a => wpSs (c.heat a) suite) ok.stk ok.ex ok.frm (by rw [ok.e.hN]; exact ok.e.nd) (by rw [ok.e.hN]; exact of_decide_eq_true h1) (show X.env.scope.names.lookup n = some .local by rw [ok.e.sc]; exact lclB_of h2) xt xu ok.e.tk
        (fun W' pn xe tk hp => PSs.imp (so_Ss body (ok.tr tk hp) b h4) fun D σ H ⟨ρ, m, F, K, A, hw, g⟩ => ⟨ρ, m, F, K, A, hw, g.nx, g.rt, g.bk, g.ct, g.xc⟩) (fun a pn => PSs.imp (so_Ss suite (ok.suite a pn) (s0 :: ss) h5) fun D σ H ⟨ρ, m, F, K, A, hw, g⟩ => ⟨ρ, m, F, K, A, hw, g.nx, g.rt, g.bk, g.ct, g.xc⟩)
    · cases h
termination_by structural x => x
theorem so_Ss : ∀ (xs : List St) {X : Cx} {W : WX} {c : Cfg} {fs : List (String × CS)} {sc : Scope}, OkS X W c fs j N sc → ∀ ss : List Stmt, ckSs c.ks N sc fs xs ss = true → PSs X ss (RdS X W (wpSs c xs))
  | [], X, W, c, fs, sc, ok, ss, h => by
    unfold ckSs at h
    split at h
    · exact gss_nil
    · cases h
  | x :: xs, X, W, c, fs, sc, ok, ss, h => by
    unfold ckSs at h
    split at h
    · rw [Bool.and_eq_true] at h
      exact gss_cons (w := wpS c x) (w2 := wpSs c xs) (so_S x ok _ h.1) (so_Ss xs ok _ h.2)
    · cases h
termination_by structural x => x
end
end
/-! ### defs -/
theorem reps_env {K : PySem.W.Frag} {mg : Str → Option Value} {F : Addr → Prop} {H : Hp} : ∀ {ds : List D} {vs : List V} {n : Nat}, Reps K mg F H ds vs → REnv K mg F H (ds.map some ++ List.replicate n none) (vs.map some ++ List.replicate n none)
  | [], vs, n, h => by
    cases h
    refine ⟨by simp, fun i d e => ?_⟩
    exfalso
    have : ∀ n i, slot (List.replicate n (none : Option D)) i = none := fun n => by
      induction n with
      | zero => intro i; rfl
      | succ n ih => intro i; cases i with
        | zero => rfl
        | succ i => exact ih i
    have e : slot (List.replicate n (none : Option D)) i = some d := e
    rw [this] at e; cases e
  | d :: ds, vs, n, h => by
    obtain ⟨v, r, rfl, h2, h3⟩ := h
    obtain ⟨i1, i2⟩ := reps_env (n := n) h3
    refine ⟨by simp [h3.len], fun i x e => ?_⟩
    cases i with
    | zero => cases e; exact ⟨v, rfl, h2⟩
    | succ i => exact i2 i x e
def startE (n : Nat) (ds : List D) : Env0 := ds.map some ++ List.replicate (n - ds.length) none
/-- a def's body -/
def bodyW (c : Cfg) (n : Nat) (sts : List PT.St) : Prom := fun ds m Q E => wpSs c sts (startE n ds) m { nx := fun _ m' => Q .non m', rt := Q, xc := fun _ => E }
section
variable {P : Program} {w : World} {K : PySem.W.Frag} {mg : Str → Option Value} {base : Heap} {c : Cfg} {fs : List (String × CS)} {j : Nat} {N ps : List Str} {qual : Str} {scope : Scope} {body : List Stmt} {sts : List PT.St} {prom : Prom}
theorem body_ok {f : Addr} {cdv : Value} {A : Around} {outer : List Env} {s : Shared} {H : Hp} {vs : List V} {Q : VK} {E : XK} (S : FnScope N ps scope) (prm : Prm P w K mg base c fs j) (pri : PrI P w K mg base c fs j) (ck : ckSs c.ks N scope fs sts body = true) (law : ∀ ds m Q E, ds.length = ps.length → prom ds m Q E → bodyW c N.length sts ds m Q E)
    (hr : Room j (A.deeper (envOfC qual scope s.heap.objs.size f cdv))) (hsp : spOf K mg ps.length prom vs H Q E) (hcold : hotB fs = false) :
    ∃ t, PSs (cxOf (L2N.CX P w) P w K mg base N qual scope f cdv A outer s H E) body t ∧ t { nx := fun _ H' => Q .non H', rt := Q } (L2.start N vs) H := by
  obtain ⟨hl, ds, m, F, Q0, E0, rr, R, p, gq, gx⟩ := hsp
  have ok : OkS (cxOf (L2N.CX P w) P w K mg base N qual scope f cdv A outer s H E) (fun cls d _ H => E cls d H) c fs j N scope :=
    ⟨⟨prm, pri, rfl, S.nd, rfl, fun _ => rfl, L2N.takes_of rfl rfl rfl rfl, L2H.roomH_of hr, fun _ => hr.hd, fun z => by rw [hcold] at z; cases z⟩, PassesOwn.leaving, rfl, rfl, rfl, fun _ => rfl⟩
  refine ⟨_, so_Ss sts ok body ck, startE N.length ds, m, F, _, ⟨?_, R⟩, law ds m Q0 E0 (by rw [rr.len]; exact hl) p, ?_⟩
  · unfold startE L2.start
    rw [rr.len]
    exact reps_env rr
  · exact ⟨fun ρ' m' F' σ' H' q A' n => gq _ _ _ _ _ q n rfl, gq, fun _ _ _ _ _ z => z.elim, fun _ _ _ _ _ z => z.elim, fun ρ' m' F' σ' H' x cls dd e A' n r => gx x m' F' cls dd H' e n r⟩
/-- THE RULE for a def -/
theorem fn_ok {x : Str} {params : Arguments} {dvs : List V} {kws : List (Str × V)} {f : Addr} {fd : FuncData} (Fd : FunD K x qual params body scope dvs kws f fd) (S : FnScope N ps scope) (prm : Prm P w K mg base c fs j) (pri : PrI P w K mg base c fs j) (ck : ckSs c.ks N scope fs sts body = true)
    (law : ∀ ds m Q E, ds.length = ps.length → prom ds m Q E → bodyW c N.length sts ds m Q E) (hcold : hotB fs = false := by rfl) : FnOk P w K mg base (L2N.CX P w) (j + 1) f fd ps (spOf K mg ps.length prom) :=
  Fd.ok S (fun vs H Q E h => h.1) fun cdv A outer s H vs Q E hr hsp => body_ok S prm pri ck law hr hsp hcold
theorem fn_okW {x : Str} {st : Stmt} {f : Addr} {fd : FuncData} (Fd : L2.Fun K x qual st f fd) (S : FnScope N ps (defScope st)) (prm : Prm P w K mg base c fs j) (pri : PrI P w K mg base c fs j) (ck : ckSs c.ks N (defScope st) fs sts (defBody st) = true)
    (law : ∀ ds m Q E, ds.length = ps.length → prom ds m Q E → bodyW c N.length sts ds m Q E) (hcold : hotB fs = false := by rfl) : FnOk P w K mg base (L2N.CX P w) (j + 1) f fd ps (spOf K mg ps.length prom) := by
  obtain ⟨oc, od, kV, doc, pm, an, cdv, ct, osl, rfl, lk, hcd⟩ := Fd.ex
  exact fn_of lk hcd S (fun vs H Q E h => h.1) fun A outer s H vs Q E hr hsp => body_ok S prm pri ck law hr hsp hcold
end
end PT
end
section
set_option linter.all false
set_option maxRecDepth 100000
set_option maxHeartbeats 4000000
/-! PtR: wp is monotone; loops by an invariant. -/
namespace PT
open PySem L2

theorem getw_mono {α : Type} {o : Option α} {p q : α → Prop} (h : ∀ a, p a → q a) (z : getw o p) : getw o q := by
  cases o with
  | none => exact z
  | some a => exact h a z
def Prom.Mono (p : Prom) : Prop := ∀ ds m Q Q' E E', (∀ d m', Q d m' → Q' d m') → (∀ x m', E x m' → E' x m') → p ds m Q E → p ds m Q' E'
structure Cfg.Mono (c : Cfg) : Prop where
  m : ∀ f, Prom.Mono (c.call f)
  h : ∀ a f, Prom.Mono (c.callh a f)
theorem Cfg.Mono.heat {c : Cfg} (m : c.Mono) (a : Nat) : (c.heat a).Mono := ⟨m.h a, m.h⟩
theorem muQ_mono {mu : Bool} {Q Q' : QD} (h : ∀ d m, Q d m → Q' d m) : ∀ d m, muQ mu Q d m → muQ mu Q' d m := by
  intro d m z
  cases mu with
  | false => exact h d m z
  | true => cases d <;> first | exact z | exact fun p hp => h _ _ (z p hp)
theorem compW_mono {g : Option (Nat × List D)} {step : D → MH → (Option D → MH → Prop) → Prop} (hs : ∀ d m K K', (∀ r m', K r m' → K' r m') → step d m K → step d m K') {Q Q' : QD} (hQ : ∀ d m, Q d m → Q' d m) :
    ∀ ds acc m, compW g step ds acc m Q → compW g step ds acc m Q'
  | [], acc, m, h => ⟨h.1, hQ _ _ h.2⟩
  | d :: ds, acc, m, h => ⟨h.1, hs d m _ _ (fun r m' z => by
      cases r with
      | none => exact compW_mono hs hQ ds acc m' z
      | some y => exact compW_mono hs hQ ds _ m' z) h.2⟩
theorem forW_mono {g : Option (Nat × List D)} {tg : Tg} {b b' : Env0 → MH → (Env0 → MH → Prop) → Prop} (hs : ∀ ρ m K K', (∀ r m', K r m' → K' r m') → b ρ m K → b' ρ m K') {Q Q' : Env0 → MH → Prop} (hQ : ∀ d m, Q d m → Q' d m) :
    ∀ ds ρ m, forW g tg b ds ρ m Q → forW g tg b' ds ρ m Q'
  | [], ρ, m, h => ⟨h.1, hQ _ _ h.2⟩
  | d :: ds, ρ, m, h => ⟨h.1, getw_mono (fun ρ' z => hs ρ' m _ _ (fun ρ2 m2 z2 => forW_mono hs hQ ds ρ2 m2 z2) z) h.2⟩
section
variable {c : Cfg} (hc : c.Mono)
include hc
mutual
theorem wpE_mono : ∀ (e : Ex) (ρ : Env0) (m : MH) {Q Q' : QD} {E E' : QX}, (∀ d m', Q d m' → Q' d m') → (∀ x m', E x m' → E' x m') → wpE c e ρ m Q E → wpE c e ρ m Q' E'
  | .var i, ρ, m, Q, Q', E, E', hQ, hE, h => getw_mono (fun d z => hQ d m z) h
  | .lit d, ρ, m, Q, Q', E, E', hQ, hE, h => hQ _ _ h
  | .glo x, ρ, m, Q, Q', E, E', hQ, hE, h => getw_mono (fun d z => hQ d m z) h
  | .tup es, ρ, m, Q, Q', E, E', hQ, hE, h => wpEs_mono es ρ m (fun ds m1 z => hQ _ _ z) hE h
  | .lst es, ρ, m, Q, Q', E, E', hQ, hE, h => wpEs_mono es ρ m (fun ds m1 z => hQ _ _ z) hE h
  | .newl es, ρ, m, Q, Q', E, E', hQ, hE, h => wpEs_mono es ρ m (fun ds m1 z p hp => hQ _ _ (z p hp)) hE h
  | .newd, ρ, m, Q, Q', E, E', hQ, hE, h => fun p hp => hQ _ _ (h p hp)
  | .dlit ks es, ρ, m, Q, Q', E, E', hQ, hE, h => wpEs_mono es ρ m (fun ds m1 z p hp => hQ _ _ (z p hp)) hE h
  | .bin op a b, ρ, m, Q, Q', E, E', hQ, hE, h => wpE_mono a ρ m (fun x m1 z => wpE_mono b ρ m1 (fun y m2 z2 => getw_mono (fun d z3 => hQ d m2 z3) z2) hE z) hE h
  | .neg a, ρ, m, Q, Q', E, E', hQ, hE, h => wpE_mono a ρ m (fun x m1 z => by
      cases x <;> first | exact z | exact hQ _ _ z) hE h
  | .cmp op a b, ρ, m, Q, Q', E, E', hQ, hE, h => wpE_mono a ρ m (fun x m1 z => wpE_mono b ρ m1 (fun y m2 z2 => getw_mono (fun d z3 => hQ _ m2 z3) z2) hE z) hE h
  | .cmp2 op op' a b d, ρ, m, Q, Q', E, E', hQ, hE, h => wpE_mono a ρ m (fun x m1 z => wpE_mono b ρ m1 (fun y m2 z2 => getw_mono (fun t z3 => by
      cases t with
      | true => exact wpE_mono d ρ m2 (fun u m3 z4 => getw_mono (fun _ z5 => hQ _ _ z5) z4) hE z3
      | false => exact hQ _ _ z3) z2) hE z) hE h
  | .and a b, ρ, m, Q, Q', E, E', hQ, hE, h => wpE_mono a ρ m (fun x m1 z => getw_mono (fun t z3 => by
      cases t with
      | true => exact wpE_mono b ρ m1 hQ hE z3
      | false => exact hQ _ _ z3) z) hE h
  | .or a b, ρ, m, Q, Q', E, E', hQ, hE, h => wpE_mono a ρ m (fun x m1 z => getw_mono (fun t z3 => by
      cases t with
      | false => exact wpE_mono b ρ m1 hQ hE z3
      | true => exact hQ _ _ z3) z) hE h
  | .not a, ρ, m, Q, Q', E, E', hQ, hE, h => wpE_mono a ρ m (fun x m1 z => getw_mono (fun t z3 => hQ _ _ z3) z) hE h
  | .ite d a b, ρ, m, Q, Q', E, E', hQ, hE, h => wpE_mono d ρ m (fun x m1 z => getw_mono (fun t z3 => by
      cases t with
      | false => exact wpE_mono b ρ m1 hQ hE z3
      | true => exact wpE_mono a ρ m1 hQ hE z3) z) hE h
  | .idx a i, ρ, m, Q, Q', E, E', hQ, hE, h => wpE_mono a ρ m (fun x m1 z => wpE_mono i ρ m1 (fun y m2 z2 => getw_mono (fun d z3 => hQ _ m2 z3) z2) hE z) hE h
  | .sl a lo hi, ρ, m, Q, Q', E, E', hQ, hE, h => wpE_mono a ρ m (fun x m1 z => wpP_mono lo ρ m1 (fun l m2 z2 => wpP_mono hi ρ m2 (fun h m3 z3 => getw_mono (fun d z4 => hQ _ _ z4) z3) hE z2) hE z) hE h
  | .call f es, ρ, m, Q, Q', E, E', hQ, hE, h => wpEs_mono es ρ m (fun ds m1 z => hc.m f _ m1 _ _ _ _ hQ hE z) hE h
  | .callk f sg es ws, ρ, m, Q, Q', E, E', hQ, hE, h => wpEs_mono es ρ m (fun ds m1 z => wpEs_mono ws ρ m1 (fun ys m2 z2 => hc.m f _ m2 _ _ _ _ hQ hE z2) hE z) hE h
  | .bi f es, ρ, m, Q, Q', E, E', hQ, hE, h => wpEs_mono es ρ m (fun ds m1 z => getw_mono (fun d z2 => hQ _ _ z2) z) hE h
  | .me f o es, ρ, m, Q, Q', E, E', hQ, hE, h => wpE_mono o ρ m (fun x m1 z => ⟨z.1, wpEs_mono es ρ m1 (fun ds m2 z2 => getw_mono (fun d z3 => hQ _ _ z3) z2) hE z.2⟩) hE h
  | .gin neg e x, ρ, m, Q, Q', E, E', hQ, hE, h => wpE_mono e ρ m (fun v m1 z => by
      cases v <;> first | exact z | exact getw_mono (fun _ z2 => hQ _ _ z2) z) hE h
  | .gat x e, ρ, m, Q, Q', E, E', hQ, hE, h => wpE_mono e ρ m (fun v m1 z => by
      cases v <;> first | exact z | exact getw_mono (fun _ z2 => getw_mono (fun _ z3 => hQ _ _ z3) z2) z) hE h
  | .attr o f, ρ, m, Q, Q', E, E', hQ, hE, h => wpE_mono o ρ m (fun x m1 z => getw_mono (fun t z2 => ⟨z2.1, getw_mono (fun d z3 => hQ _ _ z3) z2.2⟩) z) hE h
  | .isi e x, ρ, m, Q, Q', E, E', hQ, hE, h => wpE_mono e ρ m (fun x m1 z => getw_mono (fun t z2 => ⟨z2.1, hQ _ _ z2.2⟩) z) hE h
  | .frz e, ρ, m, Q, Q', E, E', hQ, hE, h => wpE_mono e ρ m (fun x m1 z => getw_mono (fun t z2 => hQ _ _ z2) z) hE h
  | .mth t f o es, ρ, m, Q, Q', E, E', hQ, hE, h => wpE_mono o ρ m (fun x m1 z => ⟨z.1, wpEs_mono es ρ m1 (fun ds m2 z2 => hc.m _ _ m2 _ _ _ _ hQ hE z2) hE z.2⟩) hE h
  | .rev a, ρ, m, Q, Q', E, E', hQ, hE, h => wpE_mono a ρ m (fun x m1 z => getw_mono (fun t z2 => hQ _ _ z2) z) hE h
  | .din neg k d, ρ, m, Q, Q', E, E', hQ, hE, h => wpE_mono k ρ m (fun x m1 z => wpE_mono d ρ m1 (fun y m2 z2 => getw_mono (fun _ z3 => hQ _ m2 z3) z2) hE z) hE h
  | .dget d k, ρ, m, Q, Q', E, E', hQ, hE, h => wpE_mono d ρ m (fun x m1 z => wpE_mono k ρ m1 (fun y m2 z2 => getw_mono (fun _ z3 => hQ _ m2 z3) z2) hE z) hE h
  | .isx e x, ρ, m, Q, Q', E, E', hQ, hE, h => wpE_mono e ρ m (fun v m1 z => by
      cases v <;> first | exact z | exact getw_mono (fun _ z2 => hQ _ _ z2) z) hE h
  | .xat e f, ρ, m, Q, Q', E, E', hQ, hE, h => wpE_mono e ρ m (fun v m1 z => ⟨z.1, getw_mono (fun _ z2 => hQ _ _ z2) z.2⟩) hE h
  | .xcall f es, ρ, m, Q, Q', E, E', hQ, hE, h => wpEs_mono es ρ m (fun ds m1 z => hc.m f _ m1 _ _ _ _ hQ hE z) hE h
  | .hcomp i elt v r own, ρ, m, Q, Q', E, E', hQ, hE, h => by
    refine ⟨h.1, wpE_mono r ρ m (fun n m1 z => getw_mono (fun ig z2 => ?_) z) hE h.2⟩
    refine compW_mono ?_ hQ _ _ _ z2
    intro d m2 K K' hK z3
    exact getw_mono (fun ρ' z4 => wpE_mono elt ρ' m2 (fun y m4 z6 => hK _ _ z6) (fun _ _ z => z) z4) z3
  | .cv i gs es, ρ, m, Q, Q', E, E', hQ, hE, h => getw_mono (fun v z => getw_mono (fun f z2 => ⟨z2.1, wpEs_mono es ρ m (fun ds m1 z3 => hc.m f _ m1 _ _ _ _ hQ hE z3) hE z2.2⟩) z) h
  | .comp elt tg k es ifs own mu, ρ, m, Q, Q', E, E', hQ, hE, h => by
    refine wpEs_mono es ρ m (fun ds m1 z => ?_) hE h
    refine getw_mono (fun ig z2 => ?_) z
    refine compW_mono (fun d m2 K K' hK z3 => ?_) (muQ_mono hQ) _ _ _ z2
    refine getw_mono (fun ρ' z4 => ?_) z3
    refine wpTs_mono ifs ρ' m2 (fun t m3 z5 => ?_) z4
    cases t with
    | true => exact wpE_mono elt ρ' m3 (fun y m4 z6 => hK _ _ z6) (fun _ _ z => z) z5
    | false => exact hK _ _ z5
termination_by structural x => x
theorem wpEs_mono : ∀ (es : List Ex) (ρ : Env0) (m : MH) {Q Q' : List D → MH → Prop} {E E' : QX}, (∀ d m', Q d m' → Q' d m') → (∀ x m', E x m' → E' x m') → wpEs c es ρ m Q E → wpEs c es ρ m Q' E'
  | [], ρ, m, Q, Q', E, E', hQ, hE, h => hQ _ _ h
  | e :: es, ρ, m, Q, Q', E, E', hQ, hE, h => wpE_mono e ρ m (fun d m1 z => wpEs_mono es ρ m1 (fun ds m2 z2 => hQ _ _ z2) hE z) hE h
termination_by structural x => x
theorem wpP_mono : ∀ (es : List Ex) (ρ : Env0) (m : MH) {Q Q' : Option Int → MH → Prop} {E E' : QX}, (∀ d m', Q d m' → Q' d m') → (∀ x m', E x m' → E' x m') → wpP c es ρ m Q E → wpP c es ρ m Q' E'
  | [], ρ, m, Q, Q', E, E', hQ, hE, h => hQ _ _ h
  | [e], ρ, m, Q, Q', E, E', hQ, hE, h => wpE_mono e ρ m (fun x m1 z => by
      cases x <;> first | exact z | exact hQ _ _ z) hE h
  | _ :: _ :: _, ρ, m, Q, Q', E, E', hQ, hE, h => h
termination_by structural x => x
theorem wpTs_mono : ∀ (es : List Ex) (ρ : Env0) (m : MH) {Q Q' : Bool → MH → Prop}, (∀ d m', Q d m' → Q' d m') → wpTs c es ρ m Q → wpTs c es ρ m Q'
  | [], ρ, m, Q, Q', hQ, h => hQ _ _ h
  | [e], ρ, m, Q, Q', hQ, h => wpE_mono e ρ m (fun x m1 z => getw_mono (fun t z2 => hQ _ _ z2) z) (fun _ _ z => z) h
  | _ :: _ :: _, ρ, m, Q, Q', hQ, h => h
termination_by structural x => x
end
/-- ends, the one within the other -/
structure EnLe (K K' : En) : Prop where
  nx : ∀ ρ m, K.nx ρ m → K'.nx ρ m
  rt : ∀ d m, K.rt d m → K'.rt d m
  bk : ∀ ρ m, K.bk ρ m → K'.bk ρ m
  ct : ∀ ρ m, K.ct ρ m → K'.ct ρ m
  xc : ∀ ρ x m, K.xc ρ x m → K'.xc ρ x m
end
section
mutual
theorem wpS_mono' : ∀ (s : PT.St) {c : Cfg} (hc : c.Mono) (ρ : Env0) (m : MH) {K K' : En}, EnLe K K' → wpS c s ρ m K → wpS c s ρ m K'
  | .asg tg e, c, hc, ρ, m, K, K', l, h => wpE_mono hc e ρ m (fun d m1 z => getw_mono (fun ρ' z2 => l.nx _ _ z2) z) (l.xc ρ) h
  | .par is es, c, hc, ρ, m, K, K', l, h => wpEs_mono hc es ρ m (fun d m1 z => getw_mono (fun ρ' z2 => l.nx _ _ z2) z) (l.xc ρ) h
  | .star is j e, c, hc, ρ, m, K, K', l, h => wpE_mono hc e ρ m (fun d m1 z => getw_mono (fun _ z1 => getw_mono (fun _ z2 => l.nx _ _ z2) z1) z) (l.xc ρ) h
  | .seti o i e, c, hc, ρ, m, K, K', l, h => wpE_mono hc e ρ m (fun d m1 z => wpE_mono hc o ρ m1 (fun x m2 z2 => wpE_mono hc i ρ m2 (fun y m3 z3 => getw_mono (fun _ z4 => l.nx _ _ z4) z3) (l.xc ρ) z2) (l.xc ρ) z) (l.xc ρ) h
  | .seta o f e, c, hc, ρ, m, K, K', l, h => wpE_mono hc e ρ m (fun d m1 z => wpE_mono hc o ρ m1 (fun x m2 z2 => getw_mono (fun t z3 => ⟨z3.1, getw_mono (fun _ z4 => l.nx _ _ z4) z3.2⟩) z2) (l.xc ρ) z) (l.xc ρ) h
  | .auga o f op e, c, hc, ρ, m, K, K', l, h => wpE_mono hc o ρ m (fun x m1 z => getw_mono (fun t z2 => ⟨z2.1, getw_mono (fun d z3 => wpE_mono hc e ρ m1 (fun y m2 z4 => getw_mono (fun _ z5 => ⟨z5.1, getw_mono (fun _ z6 => l.nx _ _ z6) z5.2⟩) z4) (l.xc ρ) z3) z2.2⟩) z) (l.xc ρ) h
  | .aug i op e, c, hc, ρ, m, K, K', l, h => getw_mono (fun x z => wpE_mono hc e ρ m (fun y m1 z2 => getw_mono (fun _ z3 => l.nx _ _ z3) z2) (l.xc ρ) z) h
  | .expr e, c, hc, ρ, m, K, K', l, h => wpE_mono hc e ρ m (fun d m1 z => l.nx _ _ z) (l.xc ρ) h
  | .ret e, c, hc, ρ, m, K, K', l, h => wpE_mono hc e ρ m l.rt (l.xc ρ) h
  | .ite d a b, c, hc, ρ, m, K, K', l, h => wpE_mono hc d ρ m (fun x m1 z => getw_mono (fun t z2 => by
      cases t with
      | true => exact wpSs_mono' a hc ρ m1 l z2
      | false => exact wpSs_mono' b hc ρ m1 l z2) z) (l.xc ρ) h
  | .for_ tg k es body, c, hc, ρ, m, K, K', l, h => by
    refine wpEs_mono hc es ρ m (fun ds m1 z => ?_) (l.xc ρ) h
    refine getw_mono (fun ig z2 => ?_) z
    refine forW_mono (fun ρ' m2 nx nx' hn z3 => ?_) l.nx _ _ _ z2
    refine wpSs_mono' body hc ρ' m2 ?_ z3
    exact EnLe.mk hn l.rt l.nx hn l.xc
  | .while_ d body, c, hc, ρ, m, K, K', l, h => by
    obtain ⟨V, v0, h⟩ := h
    refine ⟨V, v0, fun n ρ m v => ?_⟩
    refine wpE_mono hc d ρ m (fun x m1 z => ?_) (l.xc ρ) (h n ρ m v)
    refine getw_mono (fun t z2 => ?_) z
    cases t with
    | true =>
      refine wpSs_mono' body hc ρ m1 ?_ z2
      exact EnLe.mk (fun _ _ z => z) l.rt l.nx (fun _ _ z => z) l.xc
    | false => exact l.nx _ _ z2
  | .pass, c, hc, ρ, m, K, K', l, h => l.nx _ _ h
  | .brk, c, hc, ρ, m, K, K', l, h => l.bk _ _ h
  | .cont, c, hc, ρ, m, K, K', l, h => l.ct _ _ h
  | .never, c, hc, ρ, m, K, K', l, h => h
  | .raise f es, c, hc, ρ, m, K, K', l, h => wpEs_mono hc es ρ m (fun ds m1 z => getw_mono (fun ns z2 => ⟨z2.1, l.xc _ _ _ z2.2⟩) z) (l.xc ρ) h
  | .tryx body cs i suite, c, hc, ρ, m, K, K', l, h => by
    refine wpSs_mono' body hc ρ m ?_ h
    refine EnLe.mk l.nx l.rt l.bk l.ct fun ρ' x m' z => ?_
    refine getw_mono (fun b z2 => ?_) z
    cases b with
    | true =>
      intro a
      refine wpSs_mono' suite (hc.heat a) _ _ ?_ (z2 a)
      exact EnLe.mk (fun ρ2 m2 z3 => l.nx _ _ z3) l.rt (fun ρ2 m2 z3 => l.bk _ _ z3) (fun ρ2 m2 z3 => l.ct _ _ z3) fun _ _ _ z3 => z3
    | false => exact l.xc _ _ _ z2
termination_by structural x => x
theorem wpSs_mono' : ∀ (ss : List PT.St) {c : Cfg} (hc : c.Mono) (ρ : Env0) (m : MH) {K K' : En}, EnLe K K' → wpSs c ss ρ m K → wpSs c ss ρ m K'
  | [], c, hc, ρ, m, K, K', l, h => l.nx _ _ h
  | s :: ss, c, hc, ρ, m, K, K', l, h => by
    refine wpS_mono' s hc ρ m ?_ h
    exact EnLe.mk (fun ρ' m' z => wpSs_mono' ss hc ρ' m' l z) l.rt l.bk l.ct l.xc
termination_by structural x => x
end
end
section
variable {c : Cfg} (hc : c.Mono)
include hc
theorem wpS_mono (s : PT.St) (ρ : Env0) (m : MH) {K K' : En} (l : EnLe K K') (h : wpS c s ρ m K) : wpS c s ρ m K' := wpS_mono' s hc ρ m l h
theorem wpSs_mono (ss : List PT.St) (ρ : Env0) (m : MH) {K K' : En} (l : EnLe K K') (h : wpSs c ss ρ m K) : wpSs c ss ρ m K' := wpSs_mono' ss hc ρ m l h
/-- a row of statements cut in two -/
theorem wpSs_cut {l : List PT.St} {ρ : Env0} {m : MH} {K : En} (n : Nat) (V : Env0 → MH → Prop) (h1 : wpSs c (l.take n) ρ m { nx := V, rt := K.rt, bk := K.bk, ct := K.ct, xc := K.xc }) (h2 : ∀ ρ m, V ρ m → wpSs c (l.drop n) ρ m K) : wpSs c l ρ m K := by
  induction n generalizing l ρ m with
  | zero => exact h2 ρ m h1
  | succ n ih =>
    cases l with
    | nil => exact h2 ρ m h1
    | cons s l =>
      refine wpS_mono hc s ρ m ?_ h1
      exact EnLe.mk (fun ρ' m' z => ih z h2) (fun _ _ z => z) (fun _ _ z => z) (fun _ _ z => z) (fun _ _ _ z => z)
/-- a for by its turns -/
theorem for_i {g : Option (Nat × List D)} {tg : Tg} {body : List PT.St} {rt : QD} {bk nx : Env0 → MH → Prop} {xc : Env0 → QX} {ds : List D} {ρ : Env0} {m : MH} (V : Nat → Env0 → MH → Prop) (h0 : V 0 ρ m) (hg : ∀ i ρ m, i ≤ ds.length → V i ρ m → gOk m g)
    (hs : ∀ i d ρ m, ds[i]? = some d → V i ρ m → getw (tgD tg d ρ) fun ρ' => wpSs c body ρ' m { nx := V (i + 1), rt := rt, bk := bk, ct := V (i + 1), xc := xc }) (he : ∀ ρ m, V ds.length ρ m → nx ρ m) :
    forW g tg (fun ρ' m2 nx' => wpSs c body ρ' m2 { nx := nx', rt := rt, bk := bk, ct := nx', xc := xc }) ds ρ m nx := by
  induction ds generalizing ρ m V with
  | nil => exact ⟨hg 0 ρ m (Nat.le_refl _) h0, he ρ m h0⟩
  | cons d ds ih =>
    refine ⟨hg 0 ρ m (Nat.zero_le _) h0, getw_mono (fun ρ' z => ?_) (hs 0 d ρ m rfl h0)⟩
    have st : ∀ ρ2 m2, V 1 ρ2 m2 → forW g tg (fun ρ' m2 nx' => wpSs c body ρ' m2 { nx := nx', rt := rt, bk := bk, ct := nx', xc := xc }) ds ρ2 m2 nx := fun ρ2 m2 v =>
      ih (fun i => V (i + 1)) v (fun i ρ m hi v => hg (i + 1) ρ m (Nat.succ_le_succ hi) v) (fun i d ρ m e v => hs (i + 1) d ρ m (by simpa using e) v) (fun ρ m v => he ρ m v)
    refine wpSs_mono hc body ρ' m ?_ z
    exact EnLe.mk st (fun _ _ z => z) (fun _ _ z => z) st (fun _ _ _ z => z)
end
/-- a comprehension by its turns -/
theorem comp_inv {g : Option (Nat × List D)} {step : D → MH → (Option D → MH → Prop) → Prop} (hm : ∀ d m K K', (∀ r m', K r m' → K' r m') → step d m K → step d m K') {ds : List D} {acc : List D} {m : MH} {Q : QD} (V : Nat → List D → MH → Prop) (h0 : V 0 acc m) (hg : ∀ i acc m, i ≤ ds.length → V i acc m → gOk m g)
    (hs : ∀ i d acc m, ds[i]? = some d → V i acc m → step d m fun r m' => match r with | some y => V (i + 1) (acc ++ [y]) m' | none => V (i + 1) acc m') (he : ∀ acc m, V ds.length acc m → Q (.lst acc) m) : compW g step ds acc m Q := by
  induction ds generalizing acc m V with
  | nil => exact ⟨hg 0 acc m (Nat.le_refl _) h0, he acc m h0⟩
  | cons d ds ih =>
    have st : ∀ acc2 m2, V 1 acc2 m2 → compW g step ds acc2 m2 Q := fun acc2 m2 v =>
      ih (fun i => V (i + 1)) v (fun i acc m hi v => hg (i + 1) acc m (Nat.succ_le_succ hi) v) (fun i d acc m e v => hs (i + 1) d acc m (by simpa using e) v) (fun acc m v => he acc m v)
    refine ⟨hg 0 acc m (Nat.zero_le _) h0, hm d m _ _ (fun r m' z => ?_) (hs 0 d acc m rfl h0)⟩
    cases r with
    | none => exact st _ _ z
    | some y => exact st _ _ z
end PT
end
section
set_option linter.all false
set_option maxRecDepth 100000
set_option maxHeartbeats 4000000
/-! PtS: comprehensions that change nothing; words of a text. -/
namespace PT
open PySem L2

theorem comp_pure {step : D → MH → (Option D → MH → Prop) → Prop} {m : MH} {Q : QD} (f : D → Option D) : ∀ {ds acc : List D}, (∀ d ∈ ds, ∀ K : Option D → MH → Prop, K (f d) m → step d m K) → Q (.lst (acc ++ ds.filterMap f)) m → compW none step ds acc m Q
  | [], acc, _, h => ⟨trivial, by simpa using h⟩
  | d :: ds, acc, hs, h => by
    refine ⟨trivial, hs d (List.mem_cons_self ..) _ ?_⟩
    cases e : f d with
    | none => exact comp_pure f (fun x hx => hs x (List.mem_cons_of_mem _ hx)) (by simpa [List.filterMap_cons, e] using h)
    | some y => exact comp_pure f (fun x hx => hs x (List.mem_cons_of_mem _ hx)) (by simpa [List.filterMap_cons, e, List.append_assoc] using h)
theorem truD_bl {m : MH} {b : Bool} : truD m (.bl b) = some b := rfl
theorem truD_int {m : MH} {i : Int} : truD m (.int i) = some (i != 0) := rfl
theorem truD_str {m : MH} {s : List Nat} : truD m (.str s) = some (s.length != 0) := rfl
theorem truD_non {m : MH} : truD m .non = some false := rfl
theorem truD_tup {m : MH} {xs : List D} : truD m (.tup xs) = some (!xs.isEmpty) := rfl
theorem truD_lst {m : MH} {xs : List D} : truD m (.lst xs) = some (!xs.isEmpty) := rfl
theorem getw_ite {α : Type} {p : Prop} [Decidable p] {a b : Option α} {k : α → Prop} : getw (if p then a else b) k = if p then getw a k else getw b k := by split <;> rfl
theorem lenD_str {m : MH} {s : List Nat} : lenD m (.str s) = some s.length := rfl
theorem lenD_tup {m : MH} {s : List D} : lenD m (.tup s) = some s.length := rfl
theorem lenD_lst {m : MH} {s : List D} : lenD m (.lst s) = some s.length := rfl
theorem lenD_scr {m : MH} {s : List D} : lenD m (.scr s) = some s.length := rfl
theorem itD_tup {m : MH} {xs : List D} : itD m .val [.tup xs] = some (xs, none) := rfl
theorem itD_lst {m : MH} {xs : List D} : itD m .val [.lst xs] = some (xs, none) := rfl
theorem itD_scr {m : MH} {xs : List D} : itD m .val [.scr xs] = some (xs, none) := rfl
theorem itD_str {m : MH} {s : List Nat} : itD m .val [.str s] = some (s.map fun c => D.str [c], none) := rfl
theorem itD_enT {m : MH} {xs : List D} : itD m .enum [.tup xs] = some (enumD 0 xs, none) := rfl
theorem itD_enL {m : MH} {xs : List D} : itD m .enum [.lst xs] = some (enumD 0 xs, none) := rfl
theorem itD_rng {m : MH} {n : Nat} (h : n ≤ 10000000) : itD m .range [.int n] = some (rangeD 0 n, none) := by
  have sl : sizeLine = 16777216 := PySem.sizeLine_eq
  simp only [itD]
  rw [if_pos (by omega)]
  rfl
theorem itD_rng' {m : MH} {i : Int} {n : Nat} (e : i = n) (h : n ≤ 10000000) : itD m .range [.int i] = some (rangeD 0 n, none) := by rw [e]; exact itD_rng h
theorem boolsOf_map {α : Type} (f : α → Bool) : ∀ xs : List α, boolsOf (xs.map fun x => .bl (f x)) = some (xs.map f)
  | [] => rfl
  | x :: r => by simp [boolsOf, boolsOf_map f r]
theorem strsOf_map : ∀ xs : List (List Nat), strsOf (xs.map .str) = some xs
  | [] => rfl
  | x :: r => by simp [strsOf, strsOf_map r]
theorem filterMap_some {α β : Type} (f : α → β) : ∀ xs : List α, xs.filterMap (fun x => some (f x)) = xs.map f := fun xs => by simp
/-! ### words -/
def wordsOf (s : List Nat) : List (List Nat) := (splitB 32 [] s).filter (· ≠ [])
theorem splitB_acc : ∀ (s acc : List Nat), 32 ∉ acc → splitB 32 acc s = splitB 32 acc s := fun _ _ _ => rfl
theorem split_none : ∀ (s acc : List Nat), 32 ∉ s → splitB 32 acc s = [acc ++ s]
  | [], acc, _ => by simp [splitB]
  | c :: s, acc, h => by
    have h1 : c ≠ 32 := fun e => h (by simp [e])
    have h2 : 32 ∉ s := fun e => h (by simp [e])
    simp [splitB, h1, split_none s (acc ++ [c]) h2]
theorem split_at : ∀ (s acc t : List Nat), 32 ∉ s → splitB 32 acc (s ++ 32 :: t) = (acc ++ s) :: splitB 32 [] t
  | [], acc, t, _ => by simp [splitB]
  | c :: s, acc, t, h => by
    have h1 : c ≠ 32 := fun e => h (by simp [e])
    have h2 : 32 ∉ s := fun e => h (by simp [e])
    simp [splitB, h1, split_at s (acc ++ [c]) t h2]
theorem words_nil : wordsOf [] = [] := by simp [wordsOf, splitB]
theorem words_blank (t : List Nat) : wordsOf (32 :: t) = wordsOf t := by simp [wordsOf, splitB]
theorem words_blanks (n : Nat) (t : List Nat) : wordsOf (List.replicate n 32 ++ t) = wordsOf t := by
  induction n with
  | zero => rfl
  | succ n ih => rw [List.replicate_succ, List.cons_append, words_blank, ih]
theorem words_cons {w t : List Nat} (h0 : w ≠ []) (h : 32 ∉ w) : wordsOf (w ++ 32 :: t) = w :: wordsOf t := by
  unfold wordsOf
  rw [split_at w [] t h, List.nil_append, List.filter_cons, if_pos (by simp [h0])]
theorem words_one {w : List Nat} (h0 : w ≠ []) (h : 32 ∉ w) : wordsOf w = [w] := by
  unfold wordsOf
  rw [split_none w [] h, List.nil_append, List.filter_cons, if_pos (by simp [h0])]; rfl
theorem words_join : ∀ ws : List (List Nat), (∀ w ∈ ws, w ≠ [] ∧ 32 ∉ w) → wordsOf (TL.joinL [32] ws) = ws
  | [], _ => words_nil
  | [w], h => by
    obtain ⟨h1, h2⟩ := h w (by simp)
    exact words_one h1 h2
  | w :: v :: r, h => by
    obtain ⟨h1, h2⟩ := h w (by simp)
    have ih := words_join (v :: r) fun x hx => h x (List.mem_cons_of_mem _ hx)
    show wordsOf (w ++ ([32] ++ TL.joinL [32] (v :: r))) = _
    rw [show w ++ ([32] ++ TL.joinL [32] (v :: r)) = w ++ 32 :: TL.joinL [32] (v :: r) from rfl, words_cons h1 h2, ih]
/-- a text behind which words begin anew -/
def Closed (x : List Nat) (ws : List (List Nat)) : Prop := ∀ t, wordsOf (x ++ t) = ws ++ wordsOf t
theorem Closed.blanks (n : Nat) : Closed (List.replicate n 32) [] := fun t => words_blanks n t
theorem Closed.word {x w : List Nat} {ws : List (List Nat)} (c : Closed x ws) (h0 : w ≠ []) (h : 32 ∉ w) (n : Nat) : Closed (x ++ w ++ List.replicate (n + 1) 32) (ws ++ [w]) := fun t => by
  rw [List.append_assoc, List.append_assoc, c, List.replicate_succ, List.cons_append, words_cons h0 h, words_blanks]
  simp
theorem Closed.all {x : List Nat} {ws : List (List Nat)} (c : Closed x ws) : wordsOf x = ws := by
  have := c []
  rw [List.append_nil, words_nil, List.append_nil] at this
  exact this
theorem joinL_len2 (k : Nat) : ∀ ss : List (List Nat), (∀ s ∈ ss, s.length ≤ k) → (ss.map (·.length)).sum ≤ ss.length * k
  | [], _ => by simp
  | s :: r, h => by
    have ih := joinL_len2 k r fun x hx => h x (List.mem_cons_of_mem _ hx)
    have h1 := h s (by simp)
    simp only [List.map_cons, List.sum_cons, List.length_cons, Nat.add_mul, Nat.one_mul]
    omega
end PT
end
section
set_option linter.all false
set_option maxRecDepth 100000
set_option maxHeartbeats 4000000
/-! PtT: what a callee brings; the end. -/
namespace PT
open PySem PySem.Spec PyProof.Rows L2

section
variable {P : Program} {w : World} {K : PySem.W.Frag} {mg : Str → Option Value} {base : Heap}
/-- a law's promise, no exception wished -/
theorem FnOk.cx0 {k : Nat} {f : Addr} {fd : FuncData} {ps : List Str} {sp : Sp} (F : FnOk P w K mg base (L2N.CX P w) k f fd ps sp) : FnOk P w K mg base CX0 k f fd ps (fun vs H Q _ => sp vs H Q fun _ _ _ => False) := by
  refine ⟨fun vs H Q E h => F.len vs H Q _ h, fun A outer s H args us vs Q E hr e0 hb r h => codeAny_mono (F.run A outer s H args us vs Q _ hr e0 hb r h) fun r s' hq => ?_⟩
  cases r with
  | ok fl => cases fl <;> exact hq
  | error e => obtain ⟨_, _, _, _, _, _, _, _, _, _, _, _, z⟩ := hq; exact z
theorem reps_ints {F : Addr → Prop} {H : Hp} : ∀ ns : List Int, Reps K mg F H (ns.map .int) (ns.map V.int)
  | [] => rfl
  | n :: ns => ⟨_, _, rfl, rfl, reps_ints ns⟩
theorem law_start {H : Hp} {a : Addr} {ns : List Int} {prom : Prom} (hO : Only H) (hS : SqL K H a (ns.map V.int)) (hl : ns.length ≤ 63) (hp : prom [.scr (ns.map .int)] (fun _ => none) (fun d _ => d = .bl true) noX) :
    spOf K mg 1 prom [.ref a] H (fun v _ => v = .bl true) (fun _ _ _ => False) := by
  have sl : sizeLine = 16777216 := sizeLine_eq
  have sc : ScrAt K (fun b => b = a) H a (ns.map V.int) := by
    rcases hS with (h | h) | h
    · rcases hO a with z | ⟨o, xs, z⟩
      · rw [z] at h; cases h
      · rw [z] at h; cases h
    · exact .inl ⟨rfl, h⟩
    · exact .inr h
  refine ⟨rfl, [.scr (ns.map .int)], fun _ => none, fun b => b = a, _, noX, Reps.one ⟨a, _, rfl, sc, reps_ints ns, by rw [List.length_map]; omega⟩, fun _ _ z => (by cases z), hp, ?_, fun _ _ _ _ _ _ z => False.elim z⟩
  rintro d m' F' v H' rfl n r
  exact r
theorem FnF.mono {j k : Nat} {f : String} {n : Nat} {ks : List Str} {arr : List D → List D → List D} {prom : Prom} (F : FnF P w K mg base j f n ks arr prom) (h : j ≤ k) : FnF P w K mg base k f n ks arr prom := by
  obtain ⟨a, h1, h2, run⟩ := F.ex
  exact ⟨a, h1, h2, run.mono h⟩
/-- called by place, all given -/
theorem ff_pos {f : String} {x qual : Str} {params : Arguments} {body : List Stmt} {scope : Scope} {kws : List (Str × V)} {a : Addr} {fd : FuncData} {ps : List Str} {j : Nat} {prom : Prom} {arr : List D → List D → List D} (Fd : FunD K x qual params body scope [] kws a fd) (hm : mg (Str.ofString f) = some (.ref a))
    (hb : ∀ (kV doc pm : Value) (an : Option Addr) (cdv ct : Value) (us : List Value), us.length = ps.length → bindArgs (PySem.W.fnOf x qual params body scope .none kV doc pm an cdv ct) ⟨us, []⟩ = pure (ps.zip us))
    (ok : FnOk P w K mg base (L2N.CX P w) j a fd ps (spOf K mg ps.length prom)) (ha : ∀ ds, arr ds [] = ds) : FnF P w K mg base j f ps.length [] arr prom :=
  FnF.of ⟨a, fd, ps, fun us _ => us, fun vs _ => vs, hm, Fd.kp, ok, ⟨fun s us ws hK h1 h2 => Fd.bindsA hb s us h1, fun r _ => r⟩, fun vs zs h1 _ => h1, fun F H ds vs ys zs r1 r2 l1 l2 => by
    have e : ys = [] := List.length_eq_zero_iff.mp l2
    rw [e, ha]; exact r1⟩
/-- called by keywords, all given: g puts them -/
theorem ff_kw {f : String} {x qual : Str} {params : Arguments} {body : List Stmt} {scope : Scope} {kws : List (Str × V)} {a : Addr} {fd : FuncData} {ps : List Str} {j : Nat} {prom : Prom} {arr : List D → List D → List D} {n : Nat} {ks : List Str} (g : {α : Type} → List α → List α → List α) (Fd : FunD K x qual params body scope [] kws a fd) (hm : mg (Str.ofString f) = some (.ref a))
    (hb : ∀ (kV doc pm : Value) (an : Option Addr) (cdv ct : Value) (us ws : List Value), us.length = n → ws.length = ks.length → bindArgs (PySem.W.fnOf x qual params body scope .none kV doc pm an cdv ct) ⟨us, ks.zip ws⟩ = pure (ps.zip (g us ws)))
    (hr : ∀ {vs zs : List V} {us ws : List Value}, Vals vs us → Vals zs ws → Vals (g vs zs) (g us ws)) (hl : ∀ {vs zs : List V}, vs.length = n → zs.length = ks.length → (g vs zs).length = ps.length)
    (ok : FnOk P w K mg base (L2N.CX P w) j a fd ps (spOf K mg ps.length prom)) (ha : ∀ F H ds vs ys zs, Reps K mg F H ds vs → Reps K mg F H ys zs → ds.length = n → ys.length = ks.length → Reps K mg F H (arr ds ys) (g vs zs)) : FnF P w K mg base j f n ks arr prom := by
  refine FnF.of ⟨a, fd, ps, fun us ws => g us ws, fun vs zs => g vs zs, hm, Fd.kp, ok, ⟨fun s us ws hK h1 h2 => ?_, fun r1 r2 => hr r1 r2⟩, fun vs zs h1 h2 => hl h1 h2, ha⟩
  obtain ⟨oc, od, dV, kV, doc, pm, an, cdv, ct, osl, rfl, lk, hcd, hD, hK⟩ := Fd.ex
  rcases hD with ⟨_, rfl⟩ | ⟨e, _⟩
  · exact .of_eq (hb kV doc pm an cdv ct us ws h1 h2)
  · exact absurd rfl e
/-- called by place, the keyword-only defaults fill up -/
theorem ff_dfl {f : String} {x qual : Str} {params : Arguments} {body : List Stmt} {scope : Scope} {kws : List (Str × V)} {a : Addr} {fd : FuncData} {ps : List Str} {j : Nat} {prom : Prom} {arr : List D → List D → List D} {n : Nat} (Fd : FunD K x qual params body scope [] kws a fd) (hm : mg (Str.ofString f) = some (.ref a)) (hk : kws ≠ []) (hn : n + kws.length = ps.length)
    (h : ∀ (D : Addr) (doc pm : Value) (an : Option Addr) (cdv ct : Value) (us ks : List Value), us.length = n → ks.length = kws.length →
      KwChain D ((kws.map (·.1)).zip ks) (bindArgs (PySem.W.fnOf x qual params body scope .none (.ref D) doc pm an cdv ct) ⟨us, []⟩) (ps.zip (us ++ ks)))
    (ok : FnOk P w K mg base (L2N.CX P w) j a fd ps (spOf K mg ps.length prom)) (ha : ∀ F H ds vs, Reps K mg F H ds vs → ds.length = n → Reps K mg F H (arr ds []) (vs ++ kws.map (·.2))) : FnF P w K mg base j f n [] arr prom := by
  obtain ⟨dv, rd, hb⟩ := Fd.binds0 n hk hn h
  have hdl : dv.length = kws.length := by rw [← rd.length, List.length_map]
  refine FnF.of ⟨a, fd, ps, fun us _ => us ++ dv, fun vs _ => vs ++ kws.map (·.2), hm, Fd.kp, ok, ⟨fun s us ws hK h1 h2 => hb s us hK (by rw [List.length_append, h1, hdl, hn]), fun r _ => r.append rd⟩, fun vs zs h1 _ => by rw [List.length_append, List.length_map, h1, hn], fun F H ds vs ys zs r1 r2 l1 l2 => ?_⟩
  have e : ys = [] := List.length_eq_zero_iff.mp l2
  rw [e]; exact ha F H ds vs r1 l1
/-! ### constants -/
abbrev GlF (K : PySem.W.Frag) (mg : Str → Option Value) (x : String) (d : D) : Prop := ∃ v u, mg (Str.ofString x) = some u ∧ RelV v u ∧ ∀ F H, Rep K mg F H d v
theorem gl_int {x : String} {i : Int} (h : ∃ t, mg (Str.ofString x) = some (.int i t)) : GlF K mg x (.int i) := by
  obtain ⟨t, h⟩ := h
  exact ⟨.int i, _, h, ⟨t, rfl⟩, fun _ _ => rfl⟩
theorem gl_str {x : String} {s : List Nat} {z : Str} (h : ∃ t, mg (Str.ofString x) = some (.str z t)) (e : z = mkS s) (g : goodB s = true) : GlF K mg x (.str s) := by
  obtain ⟨t, h⟩ := h
  subst e
  unfold goodB at g
  simp only [Bool.and_eq_true, List.all_eq_true, decide_eq_true_eq] at g
  exact ⟨.str (mkS s), _, h, ⟨t, rfl⟩, fun _ _ => ⟨rfl, by rw [sizeLine_eq]; exact g.1, g.2⟩⟩
theorem gl_tup {x : String} {ds : List D} {vs : List V} (hm : mg (Str.ofString x) = some (.ref (He.ga K (Str.ofString x)))) (hS : SqT K (fun _ => none) (He.ga K (Str.ofString x)) vs) (r : ∀ F H, Reps K mg F H ds vs) (hl : ds.length ≤ 1000) : GlF K mg x (.tup ds) := by
  refine ⟨.ref _, _, hm, rfl, fun F H => ⟨_, vs, rfl, .inr ?_, r F H, by rw [sizeLine_eq]; omega⟩⟩
  rcases hS with (h | ⟨_, h⟩) | h
  · cases h
  · cases h
  · exact h
theorem dic_of {x : String} {tab : List (List Nat × D)} {kvs : List (Str × V)} {w : World} (hm : mg (Str.ofString x) = some (.ref (He.ga K (Str.ofString x)))) (hd : He.dicW K (He.ga K (Str.ofString x)) = some (He.keysIn w.params (tab.map fun p => mkS p.1)))
    (hv : ∀ p ∈ tab, ∃ u v, PySem.W.nsIn K (He.ga K (Str.ofString x)) (mkS p.1) = some (some u) ∧ RelV v u ∧ ∀ F H, Rep K mg F H p.2 v) : DictF K w mg x tab := by
  obtain ⟨es, n, kd⟩ := He.dicW_ok hd
  refine ⟨_, es, n, hm, kd, fun s => ?_⟩
  cases q : tab.lookup s with
  | some dd =>
    have hp : (s, dd) ∈ tab := by
      clear hd hv kd
      induction tab with
      | nil => cases q
      | cons p t ih =>
        obtain ⟨k, v⟩ := p
        rw [List.lookup_cons] at q
        cases e : s == k with
        | true =>
          rw [e] at q; cases q
          have e : s = k := by simpa using e
          rw [e]; exact List.mem_cons_self ..
        | false => rw [e] at q; exact List.mem_cons_of_mem _ (ih q)
    obtain ⟨u, v, h1, h2, h3⟩ := hv _ hp
    exact ⟨_, h1, u, v, rfl, h2, h3⟩
  | none =>
    refine ⟨none, ?_, rfl⟩
    have hes : es.toList.map He.keyOf = He.keysIn w.params (tab.map fun p => mkS p.1) := by
      unfold He.dicW at hd
      rw [kd.at_] at hd
      have hd : (match decide (("dict" : String) = "dict") && ((#[] : Array (Option Value)).isEmpty && !(He.ga K (Str.ofString x) == sysModules)) with
        | true => some (es.toList.map He.keyOf)
        | false => none) = some (He.keysIn w.params (tab.map fun p => mkS p.1)) := hd
      rw [kd.low] at hd
      exact Option.some.inj hd
    have keys : ∀ (es : List DictEntry) (ks : List Str), es.map He.keyOf = He.keysIn w.params ks → (∀ k ∈ ks, k ≠ mkS s) → es.find? (·.key.isStr (mkS s)) = none ∧ es.any (·.refKey) = false := by
      intro es
      induction es with
      | nil => intro _ _ _; exact ⟨rfl, rfl⟩
      | cons e es ih =>
        intro ks h hk
        cases ks with
        | nil => cases h
        | cons k ks =>
          have h : He.keyOf e :: es.map He.keyOf = some (k, PyData.keyHash w.params k) :: He.keysIn w.params ks := h
          injection h with h1 h2
          obtain ⟨i1, i2⟩ := ih ks h2 fun k' hk' => hk k' (List.mem_cons_of_mem _ hk')
          have hne := hk k (List.mem_cons_self ..)
          unfold He.keyOf at h1
          split at h1
          · rename_i z t ez
            have hz : z = k := (Prod.mk.inj (Option.some.inj h1)).1
            have a1 : e.key.isStr (mkS s) = false := by
              rw [ez]
              show (z == mkS s) = false
              rw [hz]; simpa using hne
            have a2 : e.refKey = false := by unfold DictEntry.refKey; rw [ez]
            exact ⟨by rw [List.find?_cons, a1]; exact i1, by rw [List.any_cons, a2, i2]; rfl⟩
          · cases h1
    have nk : ∀ k ∈ tab.map (fun p => mkS p.1), k ≠ mkS s := by
      clear hd hv kd hes keys
      intro k hk e
      obtain ⟨p, hp, rfl⟩ := List.mem_map.mp hk
      have e := mkS_inj e
      clear hk
      induction tab with
      | nil => cases hp
      | cons z t ih =>
        obtain ⟨k, v⟩ := z
        rw [List.lookup_cons] at q
        cases e2 : s == k with
        | true => rw [e2] at q; cases q
        | false =>
          rw [e2] at q
          rcases List.mem_cons.mp hp with rfl | hp
          · rw [← e] at e2; simp at e2
          · exact ih q hp
    obtain ⟨k1, k2⟩ := keys _ _ hes nk
    unfold PySem.W.nsIn
    rw [kd.at_]
    show (match es.toList.find? (·.key.isStr (mkS s)) with
      | some e => some (some e.val)
      | none => if es.toList.any (·.refKey) then none else some none) = _
    rw [k1, k2]; rfl
end
end PT
end
section
set_option linter.all false
set_option maxRecDepth 100000
set_option maxHeartbeats 4000000
/-! PtU: what is forgotten at a def's end, promises in one shape, calls by signatures, classes and methods. -/
namespace PT
open PySem PySem.Spec PyProof.Rows L2

/-! ### forgetting -/
def MH.le (m0 m : MH) : Prop := ∀ a o, m0 a = some o → m a = some o
theorem MH.le_refl (m : MH) : MH.le m m := fun _ _ h => h
theorem MH.le_trans {a b d : MH} (h : MH.le a b) (g : MH.le b d) : MH.le a d := fun x o e => g x o (h x o e)
theorem MH.le_set {m m0 : MH} {p : Nat} {o : MO} (hp : m0 p = none) (h : MH.le m0 m) : MH.le m0 (m.set p o) := fun a u e => by
  have ne : a ≠ p := fun z => by rw [z, hp] at e; cases e
  rw [MH.set_ne ne]; exact h a u e
theorem MH.le_set2 {m m0 : MH} {p : Nat} {o : MO} (h : MH.le m0 m) : MH.le (m0.set p o) (m.set p o) := fun a u e => by
  unfold MH.set at e ⊢
  split
  · rename_i q; rw [if_pos q] at e; exact e
  · rename_i q; rw [if_neg q] at e; exact h a u e
theorem MH.le_del {m m0 : MH} {p : Nat} (hp : m0 p = none) (h : MH.le m0 m) : MH.le m0 (m.del p) := fun a u e => by
  have ne : a ≠ p := fun z => by rw [z, hp] at e; cases e
  rw [MH.del_ne ne]; exact h a u e
/-- of what stands behind, some is told no more -/
def fgt (Q : QD) : QD := fun d m => ∃ m0, MH.le m0 m ∧ Q d m0
theorem fgt.here {Q : QD} {d : D} {m : MH} (h : Q d m) : fgt Q d m := ⟨m, MH.le_refl m, h⟩
theorem Nx.le {K : PySem.W.Frag} {mg : Str → Option Value} {m m1 m0 : MH} {F F1 : Addr → Prop} {H H1 : Hp} (n : Nx K mg m F H m1 F1 H1) (l : MH.le m0 m1) : Nx K mg m F H m0 F1 H1 := by
  refine ⟨n.ext, fun a o h1 h2 h3 => ?_, fun a o e => n.rel a o (l a o e)⟩
  obtain ⟨g1, g2, g3⟩ := n.kept a o h1 h2 h3
  refine ⟨g1, ?_, g3⟩
  cases q : m0 a with
  | none => rfl
  | some u => rw [l a u q] at g2; cases g2
/-- a body keeps its promise -/
def WOk (c : Cfg) (n : Nat) (sts : List PT.St) (prom : Prom) : Prop := ∀ ds m Q E, prom ds m Q E → bodyW c n sts ds m (fgt Q) E
section
variable {P : Program} {w : World} {K : PySem.W.Frag} {mg : Str → Option Value} {base : Heap} {c : Cfg} {fs : List (String × CS)} {j : Nat} {N ps : List Str} {qual : Str} {scope : Scope} {body : List Stmt} {sts : List PT.St} {prom : Prom}
theorem fn_okF {x : Str} {params : Arguments} {dvs : List V} {kws : List (Str × V)} {f : Addr} {fd : FuncData} (Fd : FunD K x qual params body scope dvs kws f fd) (S : FnScope N ps scope) (prm : Prm P w K mg base c fs j) (pri : PrI P w K mg base c fs j) (ck : ckSs c.ks N scope fs sts body = true)
    (law : WOk c N.length sts prom) (hcold : hotB fs = false := by rfl) : FnOk P w K mg base (L2N.CX P w) (j + 1) f fd ps (spOf K mg ps.length prom) := by
  have h := fn_ok (prom := fun ds m Q E => ∃ Q0, (∀ d m', fgt Q0 d m' → Q d m') ∧ bodyW c N.length sts ds m (fgt Q0) E ∧ bodyW c N.length sts ds m Q E) Fd S prm pri ck (fun ds m Q E _ h => h.choose_spec.2.2) hcold
  refine ⟨fun vs H Q E h => h.1, fun A outer s H args us vs Q E hr e0 hb r hsp => ?_⟩
  obtain ⟨hl, ds, m, F, Q0, E0, rr, R, p, gq, gx⟩ := hsp
  refine h.run A outer s H args us vs Q E hr e0 hb r ⟨hl, ds, m, F, fgt Q0, E0, rr, R, ⟨Q0, fun _ _ z => z, law ds m Q0 E0 p, law ds m Q0 E0 p⟩, ?_, gx⟩
  rintro d m' F' v H' ⟨m0, l, q⟩ n r'
  exact gq d m0 F' v H' q (n.le l) r'
end
/-! ### promises in one shape -/
/-- G: what the caller names; then what must be so, what is told, what may be raised -/
def prG {G : Type} (pre : G → List D → MH → Prop) (post : G → List D → MH → D → MH → Prop) (xc : G → List D → MH → Xn → MH → Prop) : Prom :=
  fun ds m Q E => ∃ g, pre g ds m ∧ (∀ d m', post g ds m d m' → Q d m') ∧ ∀ x m', xc g ds m x m' → E x m'
theorem prG_mono {G : Type} (pre : G → List D → MH → Prop) (post : G → List D → MH → D → MH → Prop) (xc : G → List D → MH → Xn → MH → Prop) : (prG pre post xc).Mono :=
  fun ds m Q Q' E E' hQ hE ⟨g, h1, h2, h3⟩ => ⟨g, h1, fun d m' z => hQ _ _ (h2 d m' z), fun x m' z => hE _ _ (h3 x m' z)⟩
def noP : Prom := fun _ _ _ _ => False
theorem noP_mono : Prom.Mono noP := fun _ _ _ _ _ _ _ _ h => h
/-- a table of promises is monotone where each is -/
theorem tab_mono {l : List (String × Prom)} (h : ∀ p ∈ l, Prom.Mono p.2) (f : String) : Prom.Mono ((l.lookup f).getD noP) := by
  induction l with
  | nil => exact noP_mono
  | cons p l ih =>
    obtain ⟨n, p⟩ := p
    rw [List.lookup_cons]
    cases f == n with
    | true => exact h _ (List.mem_cons_self ..)
    | false => exact ih fun q hq => h q (List.mem_cons_of_mem _ hq)
/-! ### calls by signatures -/
def putG {α : Type} : List AS → List α → List α → List α → List α
  | [], _, _, _ => []
  | .p i :: r, us, dv, ws => (us[i]?).toList ++ putG r us dv ws
  | .k i :: r, us, dv, ws => (ws[i]?).toList ++ putG r us dv ws
  | .d _ :: r, us, dv, ws => dv.head?.toList ++ putG r us dv.tail ws
def dfs (ar : List AS) : List D := ar.filterMap fun a => match a with | .d c => some c.d | _ => none
def arOk (n k : Nat) (ar : List AS) : Bool := ar.all fun a => match a with | .p i => decide (i < n) | .k i => decide (i < k) | .d _ => true
theorem Vals.getO {vs : List V} {us : List Value} (r : Vals vs us) (i : Nat) : Vals (vs[i]?).toList (us[i]?).toList := by
  induction r generalizing i with
  | nil => simp; exact .nil
  | cons h t ih =>
    cases i with
    | zero => exact .cons h .nil
    | succ i => simpa using ih i
theorem putG_vals : ∀ (ar : List AS) {vs dv zs : List V} {us du ws : List Value}, Vals vs us → Vals dv du → Vals zs ws → Vals (putG ar vs dv zs) (putG ar us du ws)
  | [], _, _, _, _, _, _, _, _, _ => .nil
  | .p i :: r, _, _, _, _, _, _, h1, h2, h3 => (Vals.getO h1 i).append (putG_vals r h1 h2 h3)
  | .k i :: r, _, _, _, _, _, _, h1, h2, h3 => (Vals.getO h3 i).append (putG_vals r h1 h2 h3)
  | .d _ :: r, _, _, _, _, _, _, h1, h2, h3 => by
    cases h2 with
    | nil => exact putG_vals r h1 .nil h3
    | cons p q => exact .cons p (putG_vals r h1 q h3)
theorem putG_len {α : Type} : ∀ (ar : List AS) {us dv ws : List α}, arOk us.length ws.length ar = true → (dfs ar).length = dv.length → (putG ar us dv ws).length = ar.length
  | [], _, _, _, _, _ => rfl
  | .p i :: r, us, dv, ws, h, l => by
    have h : (decide (i < us.length) && arOk us.length ws.length r) = true := h
    rw [Bool.and_eq_true, decide_eq_true_eq] at h
    show ((us[i]?).toList ++ putG r us dv ws).length = _
    rw [List.length_append, putG_len r h.2 l, List.getElem?_eq_getElem h.1]
    simp; omega
  | .k i :: r, us, dv, ws, h, l => by
    have h : (decide (i < ws.length) && arOk us.length ws.length r) = true := h
    rw [Bool.and_eq_true, decide_eq_true_eq] at h
    show ((ws[i]?).toList ++ putG r us dv ws).length = _
    rw [List.length_append, putG_len r h.2 l, List.getElem?_eq_getElem h.1]
    simp; omega
  | .d c :: r, us, dv, ws, h, l => by
    have h : arOk us.length ws.length r = true := h
    have l : (c.d :: dfs r).length = dv.length := l
    cases dv with
    | nil => cases l
    | cons x dv =>
      show (x :: putG r us dv ws).length = _
      rw [List.length_cons, putG_len r h (Nat.succ.inj l), List.length_cons]
section
variable {K : PySem.W.Frag} {mg : Str → Option Value} {F : Addr → Prop} {H : Hp}
theorem putG_reps : ∀ (ar : List AS) {ds ys : List D} {vs dv zs : List V}, Reps K mg F H ds vs → Reps K mg F H ys zs → Reps K mg F H (dfs ar) dv → arOk ds.length ys.length ar = true → Reps K mg F H (ar.map (AS.get ds ys)) (putG ar vs dv zs)
  | [], _, _, _, _, _, _, _, _, _ => rfl
  | .p i :: r, ds, ys, vs, dv, zs, h1, h2, h3, h => by
    have h : (decide (i < ds.length) && arOk ds.length ys.length r) = true := h
    rw [Bool.and_eq_true, decide_eq_true_eq] at h
    obtain ⟨v, e, rv⟩ := h1.get (List.getElem?_eq_getElem h.1)
    refine ⟨v, putG r vs dv zs, ?_, ?_, putG_reps r h1 h2 h3 h.2⟩
    · show (vs[i]?).toList ++ _ = _
      rw [e]; rfl
    · show Rep K mg F H (ds.getD i .non) v
      rw [List.getD_eq_getElem?_getD, List.getElem?_eq_getElem h.1]; exact rv
  | .k i :: r, ds, ys, vs, dv, zs, h1, h2, h3, h => by
    have h : (decide (i < ys.length) && arOk ds.length ys.length r) = true := h
    rw [Bool.and_eq_true, decide_eq_true_eq] at h
    obtain ⟨v, e, rv⟩ := h2.get (List.getElem?_eq_getElem h.1)
    refine ⟨v, putG r vs dv zs, ?_, ?_, putG_reps r h1 h2 h3 h.2⟩
    · show (zs[i]?).toList ++ _ = _
      rw [e]; rfl
    · show Rep K mg F H (ys.getD i .non) v
      rw [List.getD_eq_getElem?_getD, List.getElem?_eq_getElem h.1]; exact rv
  | .d c :: r, ds, ys, vs, dv, zs, h1, h2, h3, h => by
    obtain ⟨v, dv', rfl, r1, r2⟩ : ∃ v dv', dv = v :: dv' ∧ Rep K mg F H c.d v ∧ Reps K mg F H (dfs r) dv' := h3
    exact ⟨v, putG r vs dv' zs, rfl, r1, putG_reps r h1 h2 r2 h⟩
end
section
variable {P : Program} {w : World} {K : PySem.W.Frag} {mg : Str → Option Value} {base : Heap} {f : String} {x qual : Str} {params : Arguments} {body : List Stmt} {scope : Scope} {dvs : List V} {kws : List (Str × V)} {a : Addr} {fd : FuncData} {ps ks : List Str} {j n : Nat} {prom : Prom}
/-- what a call binds: without defaults -/
theorem kb1 (Fd : FunD K x qual params body scope [] kws a fd) (g : List Value → List Value → List Value) (gV : List V → List V → List V) (hr : ∀ {vs zs us ws}, Vals vs us → Vals zs ws → Vals (gV vs zs) (g us ws))
    (hb : ∀ (kV doc pm : Value) (an : Option Addr) (cdv ct : Value) (us ws : List Value), us.length = n → ws.length = ks.length → bindArgs (PySem.W.fnOf x qual params body scope .none kV doc pm an cdv ct) ⟨us, ks.zip ws⟩ = pure (ps.zip (g us ws))) : KBn K fd ps n ks g gV := by
  obtain ⟨oc, od, dV, kV, doc, pm, an, cdv, ct, osl, rfl, lk, hcd, hD, hK⟩ := Fd.ex
  rcases hD with ⟨_, rfl⟩ | ⟨e, _⟩
  · exact ⟨fun s us ws hK h1 h2 => .of_eq (hb kV doc pm an cdv ct us ws h1 h2), hr⟩
  · exact absurd rfl e
/-- .. keyword-only defaults lack -/
theorem kb2 (Fd : FunD K x qual params body scope [] kws a fd) (ms : List (Str × V)) (hms : ∀ q ∈ ms, q ∈ kws) (hk : kws ≠ []) (g : List Value → List Value → List Value → List Value) (gV : List V → List V → List V → List V)
    (hr : ∀ {vs dv zs us du ws}, Vals vs us → Vals dv du → Vals zs ws → Vals (gV vs dv zs) (g us du ws))
    (hb : ∀ (D : Addr) (doc pm : Value) (an : Option Addr) (cdv ct : Value) (us mv ws : List Value), us.length = n → mv.length = ms.length → ws.length = ks.length →
      KwChain D ((ms.map (·.1)).zip mv) (bindArgs (PySem.W.fnOf x qual params body scope .none (.ref D) doc pm an cdv ct) ⟨us, ks.zip ws⟩) (ps.zip (g us mv ws))) : ∃ mv, KBn K fd ps n ks (fun us ws => g us mv ws) (fun vs zs => gV vs (ms.map (·.2)) zs) := by
  obtain ⟨oc, od, dV, kV, doc, pm, an, cdv, ct, osl, rfl, lk, hcd, hD, hK⟩ := Fd.ex
  rcases hD with ⟨_, rfl⟩ | ⟨e, _⟩
  · rcases hK with e | ⟨D, rfl, hq⟩
    · exact absurd e hk
    · obtain ⟨mv, hl, rk, hks⟩ := kwd_vals (ms := ms) fun q hm => hq q (hms q hm)
      exact ⟨mv, ⟨fun s us ws X l1 l2 => BindsTo.of_looks fun M => KwChain.looks X hks (hb D doc pm an cdv ct us mv ws l1 hl l2), fun r1 r2 => hr r1 rk r2⟩⟩
  · exact absurd rfl e
/-- .. defaults stand -/
theorem kb3 (Fd : FunD K x qual params body scope dvs kws a fd) (hd : dvs ≠ []) (g : List Value → List Value → List Value → List Value) (gV : List V → List V → List V → List V)
    (hr : ∀ {vs dv zs us du ws}, Vals vs us → Vals dv du → Vals zs ws → Vals (gV vs dv zs) (g us du ws))
    (hb : ∀ (T : Addr) (kV doc pm : Value) (an : Option Addr) (cdv ct : Value) (us its ws : List Value), us.length = n → its.length = dvs.length → ws.length = ks.length →
      ∃ k, bindArgs (PySem.W.fnOf x qual params body scope (.ref T) kV doc pm an cdv ct) ⟨us, ks.zip ws⟩ = seqItems? (.ref T) >>= k ∧ k (some its.toArray) = pure (ps.zip (g us its ws))) : ∃ its, KBn K fd ps n ks (fun us ws => g us its ws) (fun vs zs => gV vs dvs zs) := by
  obtain ⟨oc, od, dV, kV, doc, pm, an, cdv, ct, osl, rfl, lk, hcd, hD, hK⟩ := Fd.ex
  rcases hD with ⟨e, _⟩ | ⟨_, T, o, its, m, rfl, lT, oT, rT⟩
  · exact absurd e hd
  · refine ⟨its, ⟨fun s us ws X l1 l2 => ?_, fun r1 r2 => hr r1 rT r2⟩⟩
    obtain ⟨k, e1, e2⟩ := hb T kV doc pm an cdv ct us its ws l1 rT.length.symm l2
    refine BindsTo.of_looks fun M => ?_
    rw [e1]
    exact looks_items X lT oT (.of_pure e2)
/-- a def called by a signature -/
theorem ff_sg (sg : Sg) {dv : List V} {du : List Value} (kp : PySem.W.keepIn K (.ref a) = true) (hm : mg (Str.ofString f) = some (.ref a)) (ok : FnOk P w K mg base (L2N.CX P w) j a fd ps (spOf K mg ps.length prom))
    (hb : KBn K fd ps sg.n (sg.ks.map Str.ofString) (fun us ws => putG sg.ar us du ws) (fun vs zs => putG sg.ar vs dv zs)) (wf : arOk sg.n sg.ks.length sg.ar = true) (hl : sg.ar.length = ps.length) (hd : ∀ F H, Reps K mg F H (dfs sg.ar) dv) :
    FnF P w K mg base j f sg.n (sg.ks.map Str.ofString) (CS.kw sg).arr prom := by
  refine FnF.of ⟨a, fd, ps, _, _, hm, kp, ok, hb, fun vs zs h1 h2 => ?_, fun F H ds vs ys zs r1 r2 l1 l2 => ?_⟩
  · rw [List.length_map] at h2
    rw [putG_len _ (by rw [h1, h2]; exact wf) (hd (fun _ => False) (fun _ => none)).len]; exact hl
  · rw [List.length_map] at l2
    exact putG_reps _ r1 r2 (hd F H) (by rw [l1, l2]; exact wf)
/-- all by place -/
theorem ff_pl (Fd : FunD K x qual params body scope [] kws a fd) (hm : mg (Str.ofString f) = some (.ref a))
    (hb : ∀ (kV doc pm : Value) (an : Option Addr) (cdv ct : Value) (us : List Value), us.length = ps.length → bindArgs (PySem.W.fnOf x qual params body scope .none kV doc pm an cdv ct) ⟨us, []⟩ = pure (ps.zip us))
    (ok : FnOk P w K mg base (L2N.CX P w) j a fd ps (spOf K mg ps.length prom)) : FnF P w K mg base j f (CS.pl ps.length).n ((CS.pl ps.length).ks.map Str.ofString) (CS.pl ps.length).arr prom := ff_pos Fd hm hb ok fun ds => rfl
end
/-! ### classes -/
/-- with the instance ahead -/
def putS {α : Type} (ar : List AS) (us dv ws : List α) : List α := match us with
  | [] => []
  | s :: us => s :: putG ar us dv ws
theorem putS_vals (ar : List AS) {vs dv zs : List V} {us du ws : List Value} (h1 : Vals vs us) (h2 : Vals dv du) (h3 : Vals zs ws) : Vals (putS ar vs dv zs) (putS ar us du ws) := by
  cases h1 with
  | nil => exact .nil
  | cons p q => exact .cons p (putG_vals ar q h2 h3)
theorem clsB_ok {K : PySem.W.Frag} {mg : Str → Option Value} {x : String} (hm : mg (Str.ofString x) = some (.ref (He.ga K (Str.ofString x)))) (h : clsB K x = true) (hn : tyNames.contains x = false) : ClsAt K mg x (He.ga K (Str.ofString x)) := by
  unfold clsB at h
  simp only [Bool.and_eq_true, decide_eq_true_eq, List.all_eq_true] at h
  obtain ⟨h1, h2, h3, h4, h5, h6⟩ := h
  exact ⟨hm, ⟨He.cls_ok h1, h2, h3, h4, h5, h6⟩, hn⟩
theorem isiB_ok {K : PySem.W.Frag} {mg : Str → Option Value} {cs : List String} {x : String} (hm : ∀ t ∈ cs, mg (Str.ofString t) = some (.ref (He.ga K (Str.ofString t)))) (k : ClsAt K mg x (He.ga K (Str.ofString x))) (h : isiB K cs x = true) : IsiOk K mg (fun t => cs.contains t) x := by
  unfold isiB at h
  simp only [Bool.and_eq_true, decide_eq_true_eq, List.all_eq_true] at h
  refine ⟨_, k, h.1, fun t C' ht hC => ?_⟩
  have ht : t ∈ cs := by simpa using ht
  rw [hm t ht] at hC
  cases hC
  exact h.2 t ht
section
variable {P : Program} {w : World} {K : PySem.W.Frag} {mg : Str → Option Value} {base : Heap} {x qual : Str} {params : Arguments} {body : List Stmt} {scope : Scope} {dvs : List V} {kws : List (Str × V)} {a C : Addr} {fd : FuncData} {ps ks : List Str} {j n : Nat} {prom pi : Prom} {cn t f : String}
/-- a class called by a signature (its __init__'s parameters behind the instance) -/
theorem fc_sg (sg : Sg) {dv : List V} {du : List Value} (M : Mk K C a) (k : ClsAt K mg cn C) (ok : FnOk P w K mg base (L2N.CX P w) j a fd ps (spOf K mg ps.length pi))
    (hb : KBn K fd ps (sg.n + 1) (sg.ks.map Str.ofString) (fun us ws => putS sg.ar us du ws) (fun vs zs => putS sg.ar vs dv zs)) (wf : arOk sg.n sg.ks.length sg.ar = true) (hl : sg.ar.length + 1 = ps.length) (hd : ∀ F H, Reps K mg F H (dfs sg.ar) dv) :
    FnF P w K mg base (j + 1) cn sg.n (sg.ks.map Str.ofString) (CS.kw sg).arr (newP cn pi) := by
  refine FnF.new M k ok hb (fun vs zs h1 h2 => ?_) fun F H d v ds vs ys zs r1 r2 r3 l1 l2 => ?_
  · rw [List.length_map] at h2
    cases vs with
    | nil => cases h1
    | cons v vs =>
      show (v :: putG sg.ar vs dv zs).length = _
      rw [List.length_cons, putG_len _ (by rw [Nat.succ.inj h1, h2]; exact wf) (hd (fun _ => False) (fun _ => none)).len]; exact hl
  · rw [List.length_map] at l2
    exact ⟨v, _, rfl, r1, putG_reps _ r2 r3 (hd F H) (by rw [l1, l2]; exact wf)⟩
/-- .. all by place -/
theorem fc_pl (M : Mk K C a) (k : ClsAt K mg cn C) (Fd : FunD K x qual params body scope [] kws a fd) (hp : ps.length = n + 1)
    (hb : ∀ (kV doc pm : Value) (an : Option Addr) (cdv ct : Value) (us : List Value), us.length = ps.length → bindArgs (PySem.W.fnOf x qual params body scope .none kV doc pm an cdv ct) ⟨us, []⟩ = pure (ps.zip us))
    (ok : FnOk P w K mg base (L2N.CX P w) j a fd ps (spOf K mg ps.length pi)) : FnF P w K mg base (j + 1) cn (CS.pl n).n ((CS.pl n).ks.map Str.ofString) (CS.pl n).arr (newP cn pi) := by
  refine FnF.new (ks := []) (g := fun us _ => us) (gV := fun vs _ => vs) M k ok ⟨fun s us ws hK h1 h2 => Fd.bindsA hb s us (by rw [h1, hp]; rfl), fun r _ => r⟩ (fun vs zs h1 _ => by rw [h1, hp]; rfl) fun F H d v ds vs ys zs r1 r2 r3 l1 l2 => ⟨v, vs, rfl, r1, r2⟩
/-- a method, all by place -/
theorem fm_pl (k : ClsAt K mg t C) (M : Meth K C (Str.ofString f) a) (Fd : FunD K x qual params body scope [] kws a fd) (hp : ps.length = n + 1)
    (hb : ∀ (kV doc pm : Value) (an : Option Addr) (cdv ct : Value) (us : List Value), us.length = ps.length → bindArgs (PySem.W.fnOf x qual params body scope .none kV doc pm an cdv ct) ⟨us, []⟩ = pure (ps.zip us))
    (ok : FnOk P w K mg base (L2N.CX P w) j a fd ps (spOf K mg ps.length prom)) : FnM P w K mg base j t f n (CS.pl n).arr prom := by
  refine ⟨C, a, k, M, fun X W pins σ H s Q us ws vs zs e1 e2 e3 e4 e5 hr tk I r rz h => ?_⟩
  subst e1 e2 e3 e4 e5
  exact run_f (g := fun us _ => us) (gV := fun vs _ => vs) ok ⟨fun s us ws hK h1 h2 => Fd.bindsA hb s us (by rw [h1, hp]), fun r _ => r⟩ (fun vs zs h1 _ => by rw [h1, hp])
    (fun F H ds vs ys zs r1 r2 l1 l2 => by have e : ys = [] := List.length_eq_zero_iff.mp l2; exact r1) hr tk I r rz h
theorem FnM.mono {j k : Nat} {arr : List D → List D → List D} (F : FnM P w K mg base j t f n arr prom) (h : j ≤ k) : FnM P w K mg base k t f n arr prom := by
  obtain ⟨C, a, h1, h2, run⟩ := F.ex
  exact ⟨C, a, h1, h2, run.mono h⟩
end
theorem newP_mono {cn : String} {pi : Prom} (h : pi.Mono) : (newP cn pi).Mono := fun ds m Q Q' E E' hQ hE z p hp => h _ _ _ _ _ _ (fun d m' ⟨e, q⟩ => ⟨e, hQ _ _ q⟩) hE (z p hp)
theorem empB_ok {K : PySem.W.Frag} {mg : Str → Option Value} {a : Addr} (h : empB K a = true) (F : Addr → Prop) (H : Hp) : Rep K mg F H (.tup []) (.ref a) := by
  unfold empB at h
  split at h
  · rename_i c d its n sl q
    rw [Bool.and_eq_true, decide_eq_true_eq, decide_eq_true_eq] at h
    obtain ⟨rfl, e⟩ := h
    refine ⟨a, [], rfl, .inr ⟨_, its, n, q, rfl, rfl, ?_, ?_⟩, rfl, Nat.zero_le _⟩
    · have : its.size = 0 := by rw [← Array.length_toList, e]; rfl
      rw [this]; exact Nat.zero_le _
    · rw [e]; exact .nil
  · cases h
end PT
end
section
set_option linter.all false
set_option maxRecDepth 100000
set_option maxHeartbeats 4000000
/-! PtXH: a def that is called where an exception is handled. -/
namespace PT
open PySem PySem.Spec PyProof.Rows L2

section
variable {P : Program} {w : World} {K : PySem.W.Frag} {mg : Str → Option Value} {base : Heap} {c : Cfg} {fs : List (String × CS)} {j : Nat} {N ps : List Str} {qual : Str} {scope : Scope} {body : List Stmt} {sts : List PT.St} {prom : Nat → Prom}
def cxX (P : Program) (w : World) (K : PySem.W.Frag) (mg : Str → Option Value) (base : Heap) (N : List Str) (qual : Str) (scope : Scope) (f : Addr) (cd : Value) (A : Around) (outer : List Env) (s : Shared) (H : Hp) (E : XK) : Cx :=
  { cxOf (L2N.CX P w) P w K mg base N qual scope f cd A outer s H E with calm := false }
theorem inv_startX {f : Addr} {cd : Value} {A : Around} {outer : List Env} {s s1 : Shared} {H : Hp} {E : XK} {us : List Value} {vs : List V}
    (S : FnScope N ps scope) (e0 : L2.Env0 P w K mg base A outer s H) (hl : vs.length = ps.length) (r : Vals vs us)
    (x : InCallC s s.heap.objs.size (bindL (envOfC qual scope s.heap.objs.size f cd).kindOf (ps.zip us) fun _ => none) (cellsFrom (s.heap.objs.size + 1) scope.names []) (bindC (envOfC qual scope s.heap.objs.size f cd).kindOf (ps.zip us) fun _ => none) s1) (hh : ∃ u, A.handled = u) :
    Inv (cxX P w K mg base N qual scope f cd A outer s H E) [] (L2.start N vs) H s1 := by
  have hpl : ps.length ≤ N.length := by have := congrArg List.length S.pre; rw [List.length_take] at this; omega
  obtain ⟨h1, tk, rfl, hk⟩ := x.done
  have noA : ∀ b : Addr, b ∉ (cxX P w K mg base N qual scope f cd A outer s H E).ex := fun b z => absurd (show b ∈ ([] : List Addr) from z) (by simp)
  refine ⟨⟨e0.mod, S.kind, rfl, rfl, Nat.le_refl _, fun y z c h1 h2 => ?_, fun y hy => ?_, fun y c _ h => ?_, (fun z => Bool.noConfusion (show false = true from z)), Around.frames_deeper e0.frames, .inr ⟨rfl, rfl⟩, fun b z => absurd z (noA b), e0.bs, e0.bsz, fun b _ _ => noA b, fun b z => absurd z (noA b), e0.funs, e0.frf⟩,
    rfl, e0.bare, Un.kept hk, ⟨_, x.toInCall.ns, fun i y v h1 h2 h3 => ?_⟩, fun y c h => ⟨_, x.cell y c h⟩, e0.hok.fresh (Nat.le_refl _), fun y c h => ?_, fun p hp => absurd (show p ∈ ([] : List (Addr × Obj)) from hp) (by simp), e0.hok.kept hk, ?_⟩
  · exact name_of_addr x.apart (PySem.mem_of_lookup h1) (PySem.mem_of_lookup h2)
  · have hy : scope.names.lookup y = some .cell ∨ scope.names.lookup y = some .free := hy
    rcases hy with hy | hy
    · exact cell_has hy
    · exact absurd rfl (S.nofree _ (PySem.mem_of_lookup hy))
  · exact Nat.le_of_lt (x.above y c (PySem.mem_of_lookup h))
  · have hi : i < vs.length := by
      unfold L2.start at h2
      by_cases hi : i < vs.length
      · exact hi
      · rw [List.getElem?_append_right (by simpa using hi)] at h2
        rw [List.getElem?_replicate] at h2
        split at h2 <;> cases h2
    have ha : vs[i]? = some v := by
      unfold L2.start at h2
      rw [List.getElem?_append_left (by simpa using hi), List.getElem?_map] at h2
      cases e : vs[i]? with
      | none => rw [e] at h2; cases h2
      | some a => rw [e] at h2; cases h2; rfl
    obtain ⟨u, hu, rv⟩ := r.get ha
    have hp : ps[i]? = some y := by
      rw [← S.pre, List.getElem?_take_of_lt (by omega)]; exact h1
    have ndP : ps.Nodup := by rw [← S.pre]; exact S.nd.sublist (List.take_sublist _ _)
    refine ⟨u, rv, ?_⟩
    rcases S.par y (List.mem_of_getElem? hp) with k | k
    · exact .inl ⟨k, bindL_get ndP hp hu k⟩
    · obtain ⟨c, e⟩ := cell_has (n := s.heap.objs.size + 1) k
      refine .inr ⟨.inl k, c, e, ?_⟩
      have q := x.cell y c e
      rw [bindC_get ndP hp hu (by show scope.names.lookup y ≠ _; rw [k]; decide)] at q
      exact q
  · exact e0.hok.fresh (Nat.le_of_lt (x.above y c (PySem.mem_of_lookup h)))
  · unfold L2.start
    show _ = N.length
    rw [List.length_append, List.length_map, List.length_replicate]
    omega
theorem fnx_of {x : Str} {params : Arguments} {kws : List (Str × V)} {f : Addr} {fd : FuncData} {fn : String} (Fd : FunD K x qual params body scope [] kws f fd) (hm : mg (Str.ofString fn) = some (.ref f))
    (hb : ∀ (kV doc pm : Value) (an : Option Addr) (cdv ct : Value) (us : List Value), us.length = ps.length → bindArgs (PySem.W.fnOf x qual params body scope .none kV doc pm an cdv ct) ⟨us, []⟩ = pure (ps.zip us))
    (S : FnScope N ps scope) (prm : Prm P w K mg base c fs j) (pri : PrI P w K mg base c fs j) (ck : ckSs c.ks N scope (heatF fs) sts body = true) (law : ∀ a, WOk (c.heat a) N.length sts (prom a)) (a0 : Nat) : FnX P w K mg base (j + 1) a0 fn ps.length (prom a0) := by
  refine ⟨f, hm, Fd.kp, fun X W pins σ H s Q us vs e1 e2 e3 e4 e5 hr hh tk I r h => ?_⟩
  subst e1 e2 e3 e4 e5
  obtain ⟨ds, m, F, Q0, E0, rr, l1, R, p, gq, gx⟩ := h
  have hl : vs.length = ps.length := by rw [← rr.len]; exact l1
  have bt := Fd.bindsA hb s us (by rw [← r.length]; exact hl)
  obtain ⟨oc, od, dV, kV, doc, pm, an, cdv, ct, osl, rfl, lk, hcd, _, _⟩ := Fd.ex
  have hkind : ∀ y ∈ ps.zip us, scope.names.lookup y.1 = some .local ∨ (scope.names.lookup y.1 = some .cell ∧ ((cellsFrom (s.heap.objs.size + 1) scope.names []).lookup y.1).isSome = true) := fun ⟨n, v⟩ hy => by
    rcases S.par n (List.of_mem_zip hy).1 with q | q
    · exact .inl q
    · exact .inr ⟨q, PySem.W.cellsFrom_some _ _ _ (.inl q)⟩
  refine wpAny_call (codeAny_mono (R := CR (L2N.CX X.prog X.w) X.stack X.prog X.w H s Q (WE W σ)) (codeAny_call_function hr.depth (I.kIn _ _ lk) rfl S.co S.gen rfl (PySem.W.codeRec_of I.kIn hcd) (bt _ _ _ _ ?_)) fun r s' hq => ?_)
  · refine wpAny_newFunctionEnv_cells S.kind hkind fun env he s1 x => ?_
    subst he
    refine ⟨I.nolimit.keeps x.toInCall.keep, codeAny_func ?_⟩
    have I1 : Inv (cxX X.prog X.w X.K X.mg X.base N qual scope f cdv X.A X.stack s H (WE W σ)) [] (L2.start N vs) H s1 := inv_startX S I.env0 hl r x ⟨_, rfl⟩
    have ok : OkS (cxX X.prog X.w X.K X.mg X.base N qual scope f cdv X.A X.stack s H (WE W σ)) (fun cls d _ H => WE W σ cls d H) (c.heat a0) (heatF fs) j N scope :=
      ⟨⟨prm.heat a0, pri.heat a0, rfl, S.nd, rfl, (fun h => nomatch h), L2N.takes_of rfl rfl rfl rfl, hr.deeper _, (fun h => nomatch h), fun _ => ⟨a0, rfl, hh, rfl⟩⟩, PassesOwn.leaving, rfl, rfl, rfl, fun _ => rfl⟩
    have body := (so_Ss sts ok body ck).run [] s1 (L2.start N vs) H { nx := fun _ H' => Q .non H', rt := Q } I1 ⟨startE N.length ds, m, F, _, ⟨by unfold startE L2.start; rw [rr.len]; exact reps_env rr, R⟩, law a0 ds m Q0 E0 p, ?_⟩
    · refine wpAny_mono body (fun fl s' hs => ?_) fun e s' hs => hs
      have fin : ∀ {σ' : L2.St} {H' : Hp} {v : V} {u : Value}, Inv (cxX X.prog X.w X.K X.mg X.base N qual scope f cdv X.A X.stack s H (WE W σ)) [] σ' H' s' → RelV v u → Q v H' → CE X.stack X.prog X.w H s Q u s' :=
        fun {σ' H' v u} J rv q => ⟨v, H', J.os, J.bare, J.base, J.hok, rv, q⟩
      cases fl with
      | ret u =>
        obtain ⟨v, σ', H', J, rv, q⟩ := hs
        exact fin J rv q
      | next =>
        obtain ⟨σ', H', J, q⟩ := hs
        exact fin (v := V.non) (u := Value.none) J rfl q
      | brk =>
        obtain ⟨_, _, _, q⟩ := hs
        exact False.elim q
      | cont =>
        obtain ⟨_, _, _, q⟩ := hs
        exact False.elim q
    · have gf : GoQ X.K X.mg m F H (fgt Q0) Q := by
        rintro d m' F' v H' ⟨m0, l, q⟩ n r'
        exact gq d m0 F' v H' q (n.le l) r'
      exact ⟨fun ρ' m' F' σ' H' q A' n => gf _ _ _ _ _ q n rfl, gf, fun _ _ _ _ _ z => z.elim, fun _ _ _ _ _ z => z.elim, fun ρ' m' F' σ' H' x cls dd e A' n r => gx x m' F' cls dd H' e n r⟩
  · cases r with
    | error e => exact L2N.passAt tk σ pins H s e s' I hq
    | ok fl =>
      cases fl with
      | ret u => exact I.after hq
      | next => exact False.elim hq
      | brk => exact False.elim hq
      | cont => exact False.elim hq
theorem FnX.mono {f : String} {n a0 k : Nat} {pr : Prom} (F : FnX P w K mg base j a0 f n pr) (h : j ≤ k) : FnX P w K mg base k a0 f n pr := by
  obtain ⟨a, h1, h2, run⟩ := F.ex
  exact ⟨a, h1, h2, fun X W pins σ H s Q us vs e1 e2 e3 e4 e5 hr => run X W pins σ H s Q us vs e1 e2 e3 e4 e5 (hr.mono h)⟩
end
end PT
end
section
set_option linter.all false
set_option maxRecDepth 100000
set_option maxHeartbeats 4000000
/-! PtXI: what the text says of exception classes, by the kernel. -/
namespace PT
open PySem PySem.Spec PyProof.Rows L2

theorem oexB_ok {K : PySem.W.Frag} {C : Addr} (h : oexB K C = true) : OexC K C := by
  unfold oexB at h
  simp only [Bool.and_eq_true, decide_eq_true_eq] at h
  obtain ⟨q, h1, h2, h3, h4⟩ := h
  refine ⟨?_, h1, h2, h3, h4⟩
  split at q
  · rename_i dd cd sl ho
    split at q
    · rename_i C' bm k0 k1 k2 k3 n k5 hm hs
      simp only [Bool.and_eq_true, beq_iff_eq, Bool.not_eq_true'] at q
      obtain ⟨⟨⟨⟨rfl, rfl⟩, hdel⟩, hdct⟩, hok⟩ := q
      obtain ⟨nm, bs, mro, ns, qn, hd, sn, sub, ab, col, del⟩ := cd
      dsimp only at hm hdel hok hdct
      subst hm hdel hdct
      have hsl : sl = #[k0, k1, k2, k3, some (.builtin "ValueError.__new__"), k5] := by
        obtain ⟨l⟩ := sl
        simp only at hs
        rw [hs]
      subst hsl
      exact ⟨nm, qn, ns, bs, bm, sn, sub, ab, col, dd, k0, k1, k2, k3, k5, ho, hok⟩
    · cases q
  · cases q
theorem xcB_ok {K : PySem.W.Frag} {mg : Str → Option Value} {x : String} {C : Addr} (hm : mg (Str.ofString x) = some (.ref C)) (h : xcB K C = true) : XcAt K mg x C := by
  unfold xcB at h
  simp only [Bool.and_eq_true, decide_eq_true_eq] at h
  obtain ⟨h1, h2, h3, h4, h5, h6, h7, h8⟩ := h
  exact ⟨hm, ⟨h1, h2, h3, h4, h5, h6, h7, h8⟩, ⟨h1, h2, h3, h4⟩⟩
theorem xbB_ok {K : PySem.W.Frag} {mg : Str → Option Value} {x : String} {C : Addr} (hm : mg (Str.ofString x) = some (.ref C)) (h : xbB K C = true) : XBase K mg x := by
  unfold xbB at h
  simp only [Bool.and_eq_true, decide_eq_true_eq] at h
  obtain ⟨h1, h2, h3⟩ := h
  refine ⟨C, hm, h1, h2, ?_⟩
  split at h3
  · rename_i n e
    rw [beq_iff_eq] at h3
    rw [e, h3]
  · cases h3
theorem subB_ok {K : PySem.W.Frag} {mg : Str → Option Value} {bs : List String} {l : List (String × String × Bool)} (h : subB K bs l = true) (hm : ∀ e ∈ l, ∀ x, (x = e.1 ∨ x = e.2.1) → bs.contains x = false → mg (Str.ofString x) = some (.ref (He.ga K (Str.ofString x))))
    (hb : ∀ x ∈ bs, mg (Str.ofString x) = none ∧ bootBuiltins (Str.ofString x) = some (.type x) ∧ Str.ofString x ≠ "__name__") : SubF K mg (subT l) := by
  refine ⟨fun t x b e => ?_⟩
  unfold subT at e
  obtain ⟨p, ep, rfl⟩ := Option.map_eq_some_iff.mp e
  have mem := List.mem_of_find?_eq_some ep
  have hp := List.find?_some ep
  rw [Bool.and_eq_true, beq_iff_eq, beq_iff_eq] at hp
  obtain ⟨rfl, rfl⟩ := hp
  have hall := List.all_eq_true.mp h p mem
  rw [Bool.or_eq_true] at hall
  have nc : ∃ c, NamC mg p.2.1 c (xcU K bs p.2.1) := by
    cases q : bs.contains p.2.1 with
    | true =>
      obtain ⟨h1, h2, h3⟩ := hb p.2.1 (List.contains_iff_mem.mp q)
      exact ⟨.ty p.2.1, .inr ⟨h1, h2, h3, rfl, by unfold xcU; rw [q]; rfl⟩⟩
    | false => exact ⟨.ref (He.ga K (Str.ofString p.2.1)), .inl ⟨_, hm p mem _ (.inr rfl) q, rfl, by unfold xcU; rw [q]; rfl⟩⟩
  obtain ⟨c, nc⟩ := nc
  refine ⟨c, _, nc, fun C hC => ?_⟩
  rcases hall with hall | hall
  · obtain ⟨h1, _⟩ := hb p.1 (List.contains_iff_mem.mp hall)
    rw [h1] at hC; cases hC
  · rw [Bool.and_eq_true, decide_eq_true_eq, decide_eq_true_eq] at hall
    cases q : bs.contains p.1 with
    | true =>
      obtain ⟨h1, _⟩ := hb p.1 (List.contains_iff_mem.mp q)
      rw [h1] at hC; cases hC
    | false =>
      rw [hm p mem _ (.inl rfl) q] at hC
      cases hC
      exact hall
section
variable {P : Program} {w : World} {K : PySem.W.Frag} {mg : Str → Option Value} {base : Heap} {x qual : Str} {params : Arguments} {body : List Stmt} {scope : Scope} {C fI : Addr} {fd : FuncData} {B f t : String}
theorem raise_of (Fd : FunD K x qual params body scope [] [] fI fd) (hm : mg (Str.ofString t) = some (.ref C)) (hB : mg (Str.ofString B) = some (.ref (He.ga K (Str.ofString B)))) (h1 : xcB K C = true) (h2 : oexB K C = true) (h3 : iniB K C fI = true) (h4 : noB K C f = true) (h5 : xbB K (He.ga K (Str.ofString B)) = true)
    (S : FnScope ["self", Str.ofString f] ["self", Str.ofString f] scope) (hb : xiB B f body = true) (hs : (glB scope (Str.ofString B) && dbgB (Str.ofString B) && visB scope "self" && visB scope (Str.ofString f) && dbgB (Str.ofString f)) = true)
    (bi : ∀ (kV doc pm : Value) (an : Option Addr) (cdv ct : Value) (us : List Value), us.length = 2 → bindArgs (PySem.W.fnOf x qual params body scope .none kV doc pm an cdv ct) ⟨us, []⟩ = pure ((["self", Str.ofString f] : List Str).zip us)) : RaiseF P w K mg base t [f] := by
  unfold iniB at h3
  rw [Bool.and_eq_true, decide_eq_true_eq, decide_eq_true_eq] at h3
  simp only [Bool.and_eq_true] at hs
  obtain ⟨⟨⟨⟨s1, s2⟩, s3⟩, s4⟩, s5⟩ := hs
  refine ⟨C, fI, fd, f, rfl, xcB_ok hm h1, oexB_ok h2, h3.1, h3.2, xinit_ok Fd S hb (xbB_ok hB h5) s1 s2 s3 s4 s5, fun s us hK hl => ?_, of_decide_eq_true h4⟩
  rw [List.append_nil]
  rw [List.append_nil] at hl
  exact Fd.bindsA (ps := ["self", Str.ofString f]) bi s us hl
end
end PT
end
section
set_option linter.all false
set_option maxRecDepth 100000
set_option maxHeartbeats 4000000
namespace PT
namespace Lb
open PySem PySem.Spec PyProof.Rows L2

/-! the shared defs: tokens, what the laws draw -/
def b_is_name : List PT.St :=
  [.ite (.or (.not (.bi "isinstance" [(.var 0), (.lit (.ty "str"))])) (.not (.cmp2 .le .le (.lit (.int 1)) (.bi "len" [(.var 0)]) (.glo "MOST_NAME"))))
     [.ret (.lit (.bl false))]
     [],
   .ret (.bi "all" [(.comp (.cmp .in_ (.var 1) (.glo "SMALL")) (.nm 1) .val [(.var 0)] [] [1] false)])]
def b_is_word : List PT.St :=
  [.ite (.or (.not (.bi "isinstance" [(.var 0), (.lit (.ty "str"))])) (.not (.cmp2 .le .le (.lit (.int 1)) (.bi "len" [(.var 0)]) (.glo "MOST_WORD"))))
     [.ret (.lit (.bl false))]
     [],
   .ret (.bi "all" [(.comp (.cmp .in_ (.var 1) (.glo "SIGNS")) (.nm 1) .val [(.var 0)] [] [1] false)])]
def b_is_token : List PT.St :=
  [.ite (.or (.not (.bi "isinstance" [(.var 0), (.lit (.ty "str"))])) (.cmp .eq (.var 0) (.lit (.str []))))
     [.ret (.lit (.bl false))]
     [],
   .ite (.cmp .in_ (.idx (.var 0) (.lit (.int 0))) (.lit (.str [64, 35, 126, 38])))
     [.ret (.call "is_name" [(.sl (.var 0) [(.lit (.int 1))] [])])]
     [],
   .ite (.cmp .eq (.idx (.var 0) (.lit (.int 0))) (.lit (.str [94])))
     [.ret (.call "is_word" [(.sl (.var 0) [(.lit (.int 1))] [])])]
     [],
   .ret (.or (.cmp .in_ (.var 0) (.glo "BRACKETS")) (.call "is_word" [(.var 0)]))]
def l_first_wrong_1 : List PT.St :=
  [.ite (.not (.call "is_token" [(.var 3)]))
     [.ret (.var 2)]
     [],
   .ite (.gin false (.var 3) "PAIRS")
     [.ite (.cmp .isn (.var 1) (.lit .non))
        [.ret (.var 2)]
        [],
      .asg (.nm 1) (.var 3)]
     [.ite (.cmp .in_ (.var 3) (.glo "BRACKETS"))
        [.ite (.or (.cmp .is_ (.var 1) (.lit .non)) (.cmp .ne (.gat "PAIRS" (.var 1)) (.var 3)))
           [.ret (.var 2)]
           [],
         .asg (.nm 1) (.lit .non)]
        []]]
def b_first_wrong : List PT.St :=
  [.asg (.nm 1) (.lit .non),
   .for_ (.tp [(.nm 2), (.nm 3)]) .enum [(.var 0)] l_first_wrong_1,
   .ret (.ite (.or (.cmp .isn (.var 1) (.lit .non)) (.cmp .gt (.bi "len" [(.var 0)]) (.glo "MOST_TOKENS"))) (.bi "len" [(.var 0)]) (.lit .non))]
def b_is_tokens : List PT.St :=
  [.ite (.or (.not (.bi "isinstance" [(.var 0), (.lit (.ty "tuple"))])) (.cmp .isn (.call "first_wrong" [(.var 0)]) (.lit .non)))
     [.ret (.lit (.bl false))]
     [],
   .ret (.or (.not (.var 1)) (.not (.bi "any" [(.comp (.cmp .in_ (.var 2) (.glo "BRACKETS")) (.nm 2) .val [(.var 0)] [] [2] false)])))]
def l__law_cell_1 : List PT.St :=
  [.asg (.nm 2) (.bin .mod (.bin .add (.bin .mul (.var 2) (.lit (.int 30011))) (.var 3)) (.lit (.int 1000000093)))]
def b__law_cell : List PT.St :=
  [.ite (.cmp .lt (.var 1) (.bi "len" [(.var 0)]))
     [.ret (.idx (.var 0) (.var 1))]
     [],
   .asg (.nm 2) (.bin .mod (.bin .mul (.lit (.int 60013)) (.bin .add (.bin .add (.bin .mul (.var 1) (.var 1)) (.bin .mul (.lit (.int 7)) (.var 1))) (.lit (.int 19)))) (.lit (.int 1000000093))),
   .for_ (.nm 3) .val [(.sl (.var 0) [] [(.lit (.int 4))])] l__law_cell_1,
   .ret (.var 2)]
def b__law_purse : List PT.St :=
  [.ret (.newl [(.bin .add (.bin .mul (.bin .mod (.var 0) (.lit (.int 1000000093))) (.lit (.int 7001))) (.lit (.int 2003))), (.idx (.lst [(.lit (.int 0)), (.var 0)]) (.bi "int" [(.cmp .ge (.var 0) (.bin .pow (.lit (.int 10)) (.lit (.int 18))))])), (.lit (.int 0))])]
def b__law_pick : List PT.St :=
  [.seti (.var 0) (.lit (.int 2)) (.bin .add (.idx (.var 0) (.lit (.int 2))) (.lit (.int 1))),
   .asg (.nm 2) (.bin .mod (.idx (.var 0) (.lit (.int 0))) (.lit (.int 1000000093))),
   .seti (.var 0) (.lit (.int 0)) (.bin .add (.bin .mul (.var 2) (.bin .add (.bin .mod (.var 2) (.lit (.int 40013))) (.lit (.int 20011)))) (.bin .mul (.lit (.int 70003)) (.idx (.var 0) (.lit (.int 2))))),
   .ite (.cmp .gt (.idx (.var 0) (.lit (.int 1))) (.lit (.int 0)))
     [.asg (.nm 3) (.bin .mod (.idx (.var 0) (.lit (.int 1))) (.var 1)),
      .seti (.var 0) (.lit (.int 1)) (.bin .fdiv (.idx (.var 0) (.lit (.int 1))) (.var 1)),
      .ret (.var 3)]
     [],
   .ret (.bin .mod (.bin .fdiv (.bin .mod (.idx (.var 0) (.lit (.int 0))) (.lit (.int 1000000093))) (.lit (.int 16))) (.var 1))]
def b__law_one_word : List PT.St :=
  [.ite (.cmp .eq (.call "_law_pick" [(.var 0), (.lit (.int 8))]) (.lit (.int 5)))
     [.ret (.idx (.lst [(.lit (.str [104, 101, 97, 100])), (.lit (.str [112, 97, 114, 97])), (.lit (.str [114, 111, 119])), (.lit (.str [99, 108, 111, 115, 101])), (.lit (.str [97, 98, 111, 118, 101])), (.lit (.str [49, 46, 50])), (.lit (.str [70, 105, 103, 117, 114, 101])), (.lit (.str [100, 111, 110, 101])), (.lit (.str [97])), (.lit (.str [49, 50]))]) (.call "_law_pick" [(.var 0), (.lit (.int 10))]))]
     [],
   .asg (.nm 1) (.lit (.str [97, 98, 99, 100, 101, 102, 103, 104, 105, 106, 107, 108, 109, 110, 111, 112, 113, 114, 115, 116, 117, 118, 119, 120, 121, 122, 65, 66, 67, 88, 89, 90, 48, 49, 56, 57, 46, 44])),
   .ret (.me "join" (.lit (.str [])) [(.comp (.idx (.var 1) (.call "_law_pick" [(.var 0), (.lit (.int 38))])) (.nm 2) .range [(.bin .add (.lit (.int 1)) (.call "_law_pick" [(.var 0), (.idx (.lst [(.lit (.int 5)), (.lit (.int 5)), (.lit (.int 12))]) (.call "_law_pick" [(.var 0), (.lit (.int 3))]))]))] [] [2] false)])]
def b__law_names : List PT.St :=
  [.asg (.nm 2) (.lst [(.lit (.str [104, 101, 97, 100])), (.lit (.str [112, 97, 114, 97])), (.lit (.str [112, 97, 103, 101, 115])), (.lit (.str [105, 110, 100, 101, 120])), (.lit (.str [119, 104, 101, 110])), (.lit (.str [109, 97, 105, 110])), (.lit (.str [114, 111, 119])), (.lit (.str [100, 111, 110, 101]))]),
   .ite (.cmp .eq (.call "_law_pick" [(.var 0), (.lit (.int 4))]) (.lit (.int 3)))
     [.ret (.sl (.var 2) [] [(.var 1)])]
     [],
   .asg (.nm 3) (.lit (.str [97, 98, 99, 100, 101, 102, 103, 104, 105, 106, 107, 108, 109, 110, 111, 112, 113, 114, 115, 116, 117, 118, 119, 120, 121, 122])),
   .asg (.nm 4) (.me "join" (.lit (.str [])) [(.comp (.idx (.var 3) (.call "_law_pick" [(.var 0), (.lit (.int 26))])) (.nm 6) .range [(.call "_law_pick" [(.var 0), (.lit (.int 7))])] [] [6] false)]),
   .asg (.nm 5) (.call "_law_pick" [(.var 0), (.lit (.int 26))]),
   .ret (.comp (.bin .add (.var 4) (.idx (.var 3) (.bin .mod (.bin .add (.var 5) (.var 6)) (.lit (.int 26))))) (.nm 6) .range [(.var 1)] [] [6] false)]
def l__law_tokens_1 : List PT.St :=
  [.asg (.nm 7) (.call "_law_pick" [(.var 0), (.lit (.int 8))]),
   .ite (.cmp .eq (.var 7) (.lit (.int 0)))
     [.seti (.var 5) (.var 6) (.bin .add (.lit (.str [94])) (.idx (.var 5) (.var 6)))]
     [],
   .ite (.and (.cmp .eq (.var 7) (.lit (.int 1))) (.cmp .ne (.var 3) (.lst [])))
     [.seti (.var 5) (.var 6) (.bin .add (.idx (.lst [(.lit (.str [35])), (.lit (.str [35])), (.lit (.str [126])), (.lit (.str [38]))]) (.call "_law_pick" [(.var 0), (.ite (.var 4) (.lit (.int 2)) (.lit (.int 4)))])) (.idx (.var 3) (.call "_law_pick" [(.var 0), (.bi "len" [(.var 3)])])))]
     []]
def l__law_tokens_2 : List PT.St :=
  [.asg (.nm 9) (.call "_law_pick" [(.var 0), (.bin .add (.bi "len" [(.var 5)]) (.lit (.int 1)))]),
   .asg (.nm 5) (.bin .add (.bin .add (.sl (.var 5) [] [(.var 9)]) (.lst [(.bin .add (.lit (.str [64])) (.var 8))])) (.sl (.var 5) [(.var 9)] []))]
def b__law_tokens : List PT.St :=
  [.asg (.nm 5) (.comp (.call "_law_one_word" [(.var 0)]) (.nm 6) .range [(.call "_law_pick" [(.var 0), (.bin .add (.var 1) (.lit (.int 1)))])] [] [6] true),
   .for_ (.nm 6) .range [(.bi "len" [(.var 5)])] l__law_tokens_1,
   .for_ (.nm 8) .val [(.var 2)] l__law_tokens_2,
   .ret (.bi "tuple" [(.var 5)])]
def b__law_with_note : List PT.St :=
  [.par [3, 4] [(.call "_law_pick" [(.var 0), (.bin .add (.bi "len" [(.var 1)]) (.lit (.int 1)))]), (.idx (.lst [(.tup [(.lit (.str [123])), (.lit (.str [125]))]), (.tup [(.lit (.str [91])), (.lit (.str [93]))])]) (.call "_law_pick" [(.var 0), (.lit (.int 2))]))],
   .asg (.nm 5) (.call "_law_tokens" [(.var 0), (.lit (.int 5)), (.lst []), (.var 2), (.lit (.bl false))]),
   .ite (.or (.cmp .in_ (.lit (.str [123])) (.var 1)) (.cmp .in_ (.lit (.str [91])) (.var 1)))
     [.ret (.var 1)]
     [],
   .ret (.bin .add (.bin .add (.bin .add (.bin .add (.sl (.var 1) [] [(.var 3)]) (.sl (.var 4) [] [(.lit (.int 1))])) (.var 5)) (.sl (.var 4) [(.lit (.int 1))] [])) (.sl (.var 1) [(.var 3)] []))]
def b__law_is_name : List PT.St :=
  [.ite (.or (.not (.bi "isinstance" [(.var 0), (.lit (.ty "str"))])) (.not (.cmp2 .lt .lt (.lit (.int 0)) (.bi "len" [(.var 0)]) (.lit (.int 9)))))
     [.ret (.lit (.bl false))]
     [],
   .ret (.bi "all" [(.comp (.cmp .in_ (.var 1) (.lit (.str [97, 98, 99, 100, 101, 102, 103, 104, 105, 106, 107, 108, 109, 110, 111, 112, 113, 114, 115, 116, 117, 118, 119, 120, 121, 122]))) (.nm 1) .val [(.var 0)] [] [1] false)])]
def b__law_is_word : List PT.St :=
  [.ite (.or (.not (.bi "isinstance" [(.var 0), (.lit (.ty "str"))])) (.not (.cmp2 .lt .lt (.lit (.int 0)) (.bi "len" [(.var 0)]) (.lit (.int 13)))))
     [.ret (.lit (.bl false))]
     [],
   .ret (.bi "all" [(.comp (.cmp .in_ (.var 1) (.lit (.str [97, 98, 99, 100, 101, 102, 103, 104, 105, 106, 107, 108, 109, 110, 111, 112, 113, 114, 115, 116, 117, 118, 119, 120, 121, 122, 65, 66, 67, 68, 69, 70, 71, 72, 73, 74, 75, 76, 77, 78, 79, 80, 81, 82, 83, 84, 85, 86, 87, 88, 89, 90, 48, 49, 50, 51, 52, 53, 54, 55, 56, 57, 46, 44]))) (.nm 1) .val [(.var 0)] [] [1] false)])]
def b__law_is_token : List PT.St :=
  [.ite (.or (.call "_law_is_word" [(.var 0)]) (.and (.bi "isinstance" [(.var 0), (.lit (.ty "str"))]) (.cmp .in_ (.var 0) (.tup [(.lit (.str [123])), (.lit (.str [125])), (.lit (.str [91])), (.lit (.str [93]))]))))
     [.ret (.lit (.bl true))]
     [],
   .ite (.or (.not (.bi "isinstance" [(.var 0), (.lit (.ty "str"))])) (.cmp .nin (.sl (.var 0) [] [(.lit (.int 1))]) (.tup [(.lit (.str [64])), (.lit (.str [35])), (.lit (.str [126])), (.lit (.str [38])), (.lit (.str [94]))])))
     [.ret (.lit (.bl false))]
     [],
   .ret (.ite (.cmp .eq (.idx (.var 0) (.lit (.int 0))) (.lit (.str [94]))) (.call "_law_is_word" [(.sl (.var 0) [(.lit (.int 1))] [])]) (.call "_law_is_name" [(.sl (.var 0) [(.lit (.int 1))] [])]))]
def l__law_amiss_1 : List PT.St :=
  [.ite (.not (.call "_law_is_token" [(.idx (.var 0) (.var 3))]))
     [.ret (.var 3)]
     [],
   .ite (.din false (.idx (.var 0) (.var 3)) (.var 1))
     [.ite (.cmp .isn (.var 2) (.lit .non))
        [.ret (.var 3)]
        [],
      .asg (.nm 2) (.idx (.var 0) (.var 3))]
     [.ite (.cmp .in_ (.idx (.var 0) (.var 3)) (.tup [(.lit (.str [125])), (.lit (.str [93]))]))
        [.ite (.or (.cmp .is_ (.var 2) (.lit .non)) (.cmp .ne (.dget (.var 1) (.var 2)) (.idx (.var 0) (.var 3))))
           [.ret (.var 3)]
           [],
         .asg (.nm 2) (.lit .non)]
        []]]
def b__law_amiss : List PT.St :=
  [.par [1, 2] [(.frz (.dlit [[123], [91]] [(.lit (.str [125])), (.lit (.str [93]))])), (.lit .non)],
   .for_ (.nm 3) .range [(.bi "len" [(.var 0)])] l__law_amiss_1,
   .ret (.idx (.lst [(.lit .non), (.bi "len" [(.var 0)])]) (.bi "int" [(.or (.cmp .isn (.var 2) (.lit .non)) (.cmp .gt (.bi "len" [(.var 0)]) (.lit (.int 40))))]))]
/-! ### what the defs tell -/
def smallL : List Nat := [97, 98, 99, 100, 101, 102, 103, 104, 105, 106, 107, 108, 109, 110, 111, 112, 113, 114, 115, 116, 117, 118, 119, 120, 121, 122]
def signsL : List Nat := [97, 98, 99, 100, 101, 102, 103, 104, 105, 106, 107, 108, 109, 110, 111, 112, 113, 114, 115, 116, 117, 118, 119, 120, 121, 122, 65, 66, 67, 68, 69, 70, 71, 72, 73, 74, 75, 76, 77, 78, 79, 80, 81, 82, 83, 84, 85, 86, 87, 88, 89, 90, 48, 49, 50, 51, 52, 53, 54, 55, 56, 57, 46, 44]
def nameB (s : List Nat) : Bool := decide (1 ≤ s.length) && decide (s.length ≤ 8) && s.all fun c => smallL.elem c
def wordB (s : List Nat) : Bool := decide (1 ≤ s.length) && decide (s.length ≤ 12) && s.all fun c => signsL.elem c
def isBr (s : List Nat) : Bool := s == [123] || s == [125] || s == [91] || s == [93]
def tokS : List Nat → Bool
  | [] => false
  | c :: r => if [64, 35, 126, 38].elem c = true then nameB r else if c = 94 then wordB r else isBr (c :: r) || wordB (c :: r)
def strB' (f : List Nat → Bool) : D → Bool
  | .str s => f s
  | _ => false
def pairS (o : List Nat) : List Nat := if o = [123] then [125] else [93]
def fwGo : List D → Nat → Option (List Nat) → Except Nat (Option (List Nat))
  | [], _, op => .ok op
  | d :: r, i, op => match d with
    | .str s => if tokS s = false then .error i
      else if s = [123] ∨ s = [91] then (match op with | some _ => .error i | none => fwGo r (i + 1) (some s))
      else if s = [125] ∨ s = [93] then (match op with | none => .error i | some o => if pairS o = s then fwGo r (i + 1) none else .error i)
      else fwGo r (i + 1) op
    | _ => .error i
def firstW (xs : List D) : Option Nat := match fwGo xs 0 none with
  | .error i => some i
  | .ok op => if op.isSome = true ∨ 40 < xs.length then some xs.length else none
def optD : Option Nat → D
  | none => .non
  | some i => .int i
def insOk (m : MH) : D → Bool
  | .obj c _ _ => !tyNames.contains c
  | .ref a => match m a with | some (.ins c _) => !tyNames.contains c | _ => true
  | _ => true
def tydB (m : MH) (d : D) : Bool := (tyD m d).isSome && insOk m d
/-- a thing that has a type -/
abbrev Tyd (m : MH) (d : D) : Prop := tydB m d = true

/-- texts that are tokens, not brackets -/
def Plain (ws : List (List Nat)) : Prop := ∀ w ∈ ws, tokS w = true ∧ isBr w = false
/-- tokens -/
def Toks (ws : List (List Nat)) : Prop := firstW (ws.map .str) = none
def isBrD : D → Bool
  | .str s => isBr s
  | _ => false
/-- whether a thing is tokens, plain ones where so asked -/
def toksB (plain : Bool) : D → Bool
  | .tup xs => (firstW xs).isNone && (!plain || !xs.any isBrD)
  | _ => false
/-- a thing whose items, if it is a tuple, have types -/
def Tyi (m : MH) (d : D) : Prop := Tyd m d ∧ ∀ xs, d = .tup xs → ∀ x ∈ xs, Tyd m x
def pr_is_name : Prom := prG (fun (d : D) ds m => ds = [d] ∧ Tyd m d) (fun d _ m r m' => r = .bl (strB' nameB d) ∧ m' = m) fun _ _ _ _ _ => False
def pr_is_word : Prom := prG (fun (d : D) ds m => ds = [d] ∧ Tyd m d) (fun d _ m r m' => r = .bl (strB' wordB d) ∧ m' = m) fun _ _ _ _ _ => False
def pr_is_token : Prom := prG (fun (d : D) ds m => ds = [d] ∧ Tyd m d) (fun d _ m r m' => r = .bl (strB' tokS d) ∧ m' = m) fun _ _ _ _ _ => False
def pr_first_wrong : Prom := prG (fun (xs : List D) ds m => ds = [.tup xs] ∧ ∀ x ∈ xs, Tyd m x) (fun xs _ m r m' => r = optD (firstW xs) ∧ m' = m) fun _ _ _ _ _ => False
def pr_l_amiss : Prom := prG (fun (xs : List D) ds m => ds = [.tup xs] ∧ xs.length ≤ 100000 ∧ ∀ x ∈ xs, Tyd m x) (fun xs _ m r m' => r = optD (firstW xs) ∧ m' = m) fun _ _ _ _ _ => False
def pr_is_tokens : Prom := prG (fun (g : D × Bool) ds m => ds = [g.1, .bl g.2] ∧ Tyi m g.1) (fun g _ m r m' => r = .bl (toksB g.2 g.1) ∧ m' = m) fun _ _ _ _ _ => False
/-- a purse -/
def PurD (s t n : Int) : MO := .lst [.int s, .int t, .int n]
abbrev Pur (m : MH) (a : Nat) : Prop := ∃ s t n, m a = some (PurD s t n)
/-- nothing but the purse has changed of what was -/
def Keep (m : MH) (a : Nat) (m' : MH) : Prop := Pur m' a ∧ ∀ b o, b ≠ a → m b = some o → m' b = some o
def pr_law_cell : Prom := prG (fun (g : List Int × Nat) ds m => ds = [.scr (g.1.map .int), .int g.2] ∧ g.2 ≤ 1000) (fun g _ m r m' => ∃ i, r = .int i ∧ m' = m) fun _ _ _ _ _ => False
def pr_law_purse : Prom := prG (fun (i : Int) ds m => ds = [.int i]) (fun g _ m r m' => ∃ p s t n, m p = none ∧ r = .ref p ∧ m' = m.set p (PurD s t n)) fun _ _ _ _ _ => False
def pr_law_pick : Prom := prG (fun (g : Nat × Int) ds m => ds = [.ref g.1, .int g.2] ∧ Pur m g.1 ∧ 0 < g.2 ∧ g.2 < 1000000) (fun g _ m r m' => ∃ k : Nat, (k : Int) < g.2 ∧ r = .int k ∧ ∃ s t n, m' = m.set g.1 (PurD s t n)) fun _ _ _ _ _ => False
def pr_law_one_word : Prom := prG (fun (a : Nat) ds m => ds = [.ref a] ∧ Pur m a) (fun a _ m r m' => ∃ w, wordB w = true ∧ r = .str w ∧ Keep m a m') fun _ _ _ _ _ => False
def pr_law_names : Prom := prG (fun (g : Nat × Nat) ds m => ds = [.ref g.1, .int g.2] ∧ Pur m g.1 ∧ g.2 ≤ 8) (fun g _ m r m' => ∃ ws : List (List Nat), (∀ w ∈ ws, nameB w = true) ∧ ws.length = g.2 ∧ ws.Nodup ∧ r = .lst (ws.map .str) ∧ Keep m g.1 m') fun _ _ _ _ _ => False
/-- a bare token -/
def bareS (w : List Nat) : Bool := !([126, 38].elem (w.headD 0))
def pr_law_tokens : Prom := prG (fun (g : Nat × Nat × List (List Nat) × List (List Nat) × Bool) ds m => ds = [.ref g.1, .int g.2.1, .lst (g.2.2.1.map .str), .lst (g.2.2.2.1.map .str), .bl g.2.2.2.2] ∧ Pur m g.1 ∧ g.2.1 ≤ 1000 ∧ g.2.2.1.length ≤ 1000 ∧ g.2.2.2.1.length ≤ 1000 ∧ (∀ w ∈ g.2.2.1, nameB w = true) ∧ (∀ w ∈ g.2.2.2.1, nameB w = true))
  (fun g _ m r m' => ∃ ws : List (List Nat), Plain ws ∧ (g.2.2.2.2 = true → ∀ w ∈ ws, bareS w = true) ∧ ws.length ≤ g.2.1 + g.2.2.1.length ∧ r = .tup (ws.map .str) ∧ Keep m g.1 m') fun _ _ _ _ _ => False
def pr_law_with_note : Prom := prG (fun (g : Nat × List (List Nat) × List (List Nat)) ds m => ds = [.ref g.1, .tup (g.2.1.map .str), .lst (g.2.2.map .str)] ∧ Pur m g.1 ∧ g.2.2.length ≤ 1000 ∧ Plain g.2.1 ∧ g.2.1.length ≤ 1000 ∧ (∀ w ∈ g.2.2, nameB w = true))
  (fun g _ m r m' => ∃ ws : List (List Nat), (∀ w ∈ ws, tokS w = true) ∧ (ws.length ≤ 40 → Toks ws) ∧ ((ws.any fun w => w == [123]) || ws.any fun w => w == [91]) = true ∧ ws.length ≤ g.2.1.length + 7 ∧ r = .tup (ws.map .str) ∧ Keep m g.1 m') fun _ _ _ _ _ => False
def brT : D := .tup [.str [123], .str [125], .str [91], .str [93]]
def pairsT : List (List Nat × D) := [([123], .str [125]), ([91], .str [93])]
/-- what a law brings of the shared defs: tokens -/
structure TokC (c : Cfg) : Prop where
  mono : c.Mono
  is_name : c.call "is_name" = pr_is_name
  is_word : c.call "is_word" = pr_is_word
  is_token : c.call "is_token" = pr_is_token
  first_wrong : c.call "first_wrong" = pr_first_wrong
  is_tokens : c.call "is_tokens" = pr_is_tokens
  SMALL : c.glob "SMALL" = some (.str smallL)
  SIGNS : c.glob "SIGNS" = some (.str signsL)
  MOST_NAME : c.glob "MOST_NAME" = some (.int 8)
  MOST_WORD : c.glob "MOST_WORD" = some (.int 12)
  MOST_TOKENS : c.glob "MOST_TOKENS" = some (.int 40)
  BRACKETS : c.glob "BRACKETS" = some brT
  PAIRS : c.dic "PAIRS" = some pairsT
/-- .. what the laws draw -/
structure GenC (c : Cfg) : Prop where
  mono : c.Mono
  cell : c.call "_law_cell" = pr_law_cell
  purse : c.call "_law_purse" = pr_law_purse
  pick : c.call "_law_pick" = pr_law_pick
  one_word : c.call "_law_one_word" = pr_law_one_word
  names : c.call "_law_names" = pr_law_names
  tokens : c.call "_law_tokens" = pr_law_tokens
  with_note : c.call "_law_with_note" = pr_law_with_note
/-- .. the laws' own tokens -/
structure LtkC (c : Cfg) : Prop where
  mono : c.Mono
  is_name : c.call "_law_is_name" = pr_is_name
  is_word : c.call "_law_is_word" = pr_is_word
  is_token : c.call "_law_is_token" = pr_is_token
  amiss : c.call "_law_amiss" = pr_l_amiss
theorem wok {c : Cfg} {n : Nat} {b : List PT.St} {pr : Prom} (hc : c.Mono) (h : ∀ ds m Q E, pr ds m Q E → bodyW c n b ds m Q E) : WOk c n b pr := fun ds m Q E p => by
  refine wpSs_mono hc b _ m ?_ (h ds m Q E p)
  exact EnLe.mk (fun _ _ z => fgt.here z) (fun _ _ z => fgt.here z) (fun _ _ z => z) (fun _ _ z => z) (fun _ _ _ z => z)
end Lb
end PT
end
section
set_option linter.all false
set_option maxRecDepth 100000
set_option maxHeartbeats 4000000
namespace PT
namespace Lb
open PySem PySem.Spec PyProof.Rows L2

theorem isi_ne {m : MH} {d : D} {T : String} (h : Tyd m d) (hT : tyNames.contains T = true) {b : Bool} (hb : ∀ t, tyD m d = some t → tyNames.contains t = true → isiTy t T = b) (hI : T ≠ "int") (h0 : (∃ c, tyD m d = some c ∧ tyNames.contains c = false) → b = false) : isiF m [d, .ty T] = some (.bl b) := by
  unfold Tyd tydB at h
  rw [Bool.and_eq_true] at h
  obtain ⟨t, e⟩ := Option.isSome_iff_exists.mp h.1
  simp only [isiF, hT, if_true, e, Option.map_some]
  cases q : tyNames.contains t with
  | true => rw [hb t e q]
  | false =>
    rw [h0 ⟨t, e, q⟩]
    have : (t == T) = false := beq_eq_false_iff_ne.mpr fun z => by rw [z, hT] at q; cases q
    have i : (T == "int") = false := beq_eq_false_iff_ne.mpr hI
    rw [isiTy, this]
    cases z : (t == "bool") with
    | false => rfl
    | true =>
      have : t = "bool" := by simpa using z
      subst this
      exact absurd q (by decide)
theorem tyd_cls {m : MH} {d : D} {c : String} (h : Tyd m d) (e : tyD m d = some c) (hc : tyNames.contains c = false) : (∀ s, d ≠ .str s) ∧ (∀ xs, d ≠ .tup xs) := by
  refine ⟨fun s z => ?_, fun s z => ?_⟩ <;> (subst z; cases e; exact absurd hc (by decide))
theorem ty_str {m : MH} {d : D} (h : Tyd m d) (e : tyD m d = some "str") : ∃ s, d = .str s := by
  unfold Tyd tydB at h
  rw [Bool.and_eq_true] at h
  cases d with
  | str s => exact ⟨s, rfl⟩
  | ref a =>
    unfold tyD at e
    cases q : m a with
    | none => simp [q] at e
    | some o =>
      cases o with
      | ins c fs =>
        have h2 := h.2
        simp [insOk, q] at h2
        simp [q] at e
        subst e
        exact absurd h2 (by decide)
      | _ => simp [q] at e
  | obj c ns vs =>
    have h2 := h.2
    simp [insOk] at h2
    have e : c = "str" := by simpa [tyD] using e
    subst e
    exact absurd h2 (by decide)
  | _ => simp [tyD] at e
theorem ty_tup {m : MH} {d : D} (h : Tyd m d) (e : tyD m d = some "tuple") : ∃ s, d = .tup s := by
  unfold Tyd tydB at h
  rw [Bool.and_eq_true] at h
  cases d with
  | tup s => exact ⟨s, rfl⟩
  | ref a =>
    unfold tyD at e
    cases q : m a with
    | none => simp [q] at e
    | some o =>
      cases o with
      | ins c fs =>
        have h2 := h.2
        simp [insOk, q] at h2
        simp [q] at e
        subst e
        exact absurd h2 (by decide)
      | _ => simp [q] at e
  | obj c ns vs =>
    have h2 := h.2
    simp [insOk] at h2
    have e : c = "tuple" := by simpa [tyD] using e
    subst e
    exact absurd h2 (by decide)
  | _ => simp [tyD] at e
theorem isi_no {m : MH} {d : D} {T : String} (h : Tyd m d) (hT : tyNames.contains T = true) (hI : T ≠ "int") (hn : tyD m d ≠ some T) : isiF m [d, .ty T] = some (.bl false) := by
  have i : (T == "int") = false := beq_eq_false_iff_ne.mpr hI
  refine isi_ne h hT (fun t e q => ?_) hI fun _ => rfl
  have : (t == T) = false := beq_eq_false_iff_ne.mpr fun z => hn (by rw [e, z])
  rw [isiTy, this, i]; simp
theorem isi_str {m : MH} {d : D} (h : Tyd m d) : isiF m [d, .ty "str"] = some (.bl (strB' (fun _ => true) d)) := by
  by_cases e : tyD m d = some "str"
  · obtain ⟨s, rfl⟩ := ty_str h e
    simp [isiF, tyD, tyNames, isiTy, strB']
  · rw [isi_no h (by decide) (by decide) e]
    cases d <;> first | rfl | exact absurd rfl e
def isTupB : D → Bool
  | .tup _ => true
  | _ => false
theorem isi_tupD {m : MH} {d : D} (h : Tyd m d) : isiF m [d, .ty "tuple"] = some (.bl (isTupB d)) := by
  by_cases e : tyD m d = some "tuple"
  · obtain ⟨s, rfl⟩ := ty_tup h e
    simp [isiF, tyD, tyNames, isiTy, isTupB]
  · rw [isi_no h (by decide) (by decide) e]
    cases d <;> first | rfl | exact absurd rfl e
theorem all_chars (f : Nat → Bool) (s : List Nat) (m : MH) (Q : QD) (h : Q (.bl (s.all f)) m) : getw (allF m [.lst ((s.map fun c => D.str [c]).filterMap fun d => match d with | .str [c] => some (.bl (f c)) | _ => none)]) (fun z => Q z m) := by
  rw [List.filterMap_map]
  have e : ((fun d => match d with | D.str [c] => some (D.bl (f c)) | _ => none) ∘ fun c => D.str [c]) = fun c => some (D.bl (f c)) := rfl
  rw [e, filterMap_some]
  simp [allF, lstOf, boolsOf_map]
  simpa [List.all_map] using h
theorem use_is_name {d : D} {m : MH} {Q : QD} {E : QX} (h1 : Tyd m d) (h2 : Q (.bl (strB' nameB d)) m) : pr_is_name [d] m Q E := ⟨d, ⟨rfl, h1⟩, fun _ _ ⟨e1, e2⟩ => by rw [e1, e2]; exact h2, fun _ _ z => z.elim⟩
theorem use_is_word {d : D} {m : MH} {Q : QD} {E : QX} (h1 : Tyd m d) (h2 : Q (.bl (strB' wordB d)) m) : pr_is_word [d] m Q E := ⟨d, ⟨rfl, h1⟩, fun _ _ ⟨e1, e2⟩ => by rw [e1, e2]; exact h2, fun _ _ z => z.elim⟩
theorem use_is_token {d : D} {m : MH} {Q : QD} {E : QX} (h1 : Tyd m d) (h2 : Q (.bl (strB' tokS d)) m) : pr_is_token [d] m Q E := ⟨d, ⟨rfl, h1⟩, fun _ _ ⟨e1, e2⟩ => by rw [e1, e2]; exact h2, fun _ _ z => z.elim⟩
theorem use_first_wrong {xs : List D} {m : MH} {Q : QD} {E : QX} (h1 : ∀ x ∈ xs, Tyd m x) (h2 : Q (optD (firstW xs)) m) : pr_first_wrong [.tup xs] m Q E := ⟨xs, ⟨rfl, h1⟩, fun _ _ ⟨e1, e2⟩ => by rw [e1, e2]; exact h2, fun _ _ z => z.elim⟩
theorem use_is_tokens {d : D} {b : Bool} {m : MH} {Q : QD} {E : QX} (h1 : Tyi m d) (h2 : Q (.bl (toksB b d)) m) : pr_is_tokens [d, .bl b] m Q E := ⟨(d, b), ⟨rfl, h1⟩, fun _ _ ⟨e1, e2⟩ => by rw [e1, e2]; exact h2, fun _ _ z => z.elim⟩
theorem w_is_name {c : Cfg} (L : TokC c) : WOk c 2 b_is_name pr_is_name := wok L.mono <| by
  rintro ds m Q E ⟨d, ⟨rfl, hd⟩, h, _⟩
  have h := h _ _ ⟨rfl, rfl⟩
  unfold b_is_name
  simp [bodyW, startE, wpSs, wpS, wpB, wpE, wpEs, wpTs, wpP, bifD, truD_bl, truD_int, truD_str, truD_non, truD_tup, truD_lst, getw_ite, lenF, lenD_str, lenD_tup, lenD_lst, lenD_scr, cmpD, ordD, itD_tup, itD_lst, itD_scr, itD_str, itD_enT, itD_enL, tgD, tgDs, wipes, muQ, L.SMALL, L.MOST_NAME, isi_str hd]
  cases d with
  | str s =>
    have hc : Q (.bl (nameB s)) m := h
    unfold nameB at hc
    simp [strB', L.SMALL, L.MOST_NAME, lenD]
    split
    · rename_i a
      have a' : 1 ≤ s.length := by omega
      split
      · rename_i b
        have b' : s.length ≤ 8 := by omega
        refine comp_pure (fun d => match d with | .str [c] => some (.bl (smallL.elem c)) | _ => none) ?_ ?_
        · intro d hd K hK
          obtain ⟨c, _, rfl⟩ := List.mem_map.mp hd
          exact hK
        · refine all_chars (fun c => smallL.elem c) s m Q ?_
          simpa [a', b'] using hc
      · rename_i b
        have b' : ¬ s.length ≤ 8 := by omega
        simpa [b'] using hc
    · rename_i a
      have a' : ¬ 1 ≤ s.length := by omega
      simpa [a'] using hc
  | _ => exact h
theorem w_is_word {c : Cfg} (L : TokC c) : WOk c 2 b_is_word pr_is_word := wok L.mono <| by
  rintro ds m Q E ⟨d, ⟨rfl, hd⟩, h, _⟩
  have h := h _ _ ⟨rfl, rfl⟩
  unfold b_is_word
  simp [bodyW, startE, wpSs, wpS, wpB, wpE, wpEs, wpTs, wpP, bifD, truD_bl, truD_int, truD_str, truD_non, truD_tup, truD_lst, getw_ite, lenF, lenD_str, lenD_tup, lenD_lst, lenD_scr, cmpD, ordD, itD_tup, itD_lst, itD_scr, itD_str, itD_enT, itD_enL, tgD, tgDs, wipes, muQ, L.SIGNS, L.MOST_WORD, isi_str hd]
  cases d with
  | str s =>
    have hc : Q (.bl (wordB s)) m := h
    unfold wordB at hc
    simp [strB', L.SIGNS, L.MOST_WORD, lenD]
    split
    · rename_i a
      have a' : 1 ≤ s.length := by omega
      split
      · rename_i b
        have b' : s.length ≤ 12 := by omega
        refine comp_pure (fun d => match d with | .str [c] => some (.bl (signsL.elem c)) | _ => none) ?_ ?_
        · intro d hd K hK
          obtain ⟨c, _, rfl⟩ := List.mem_map.mp hd
          exact hK
        · refine all_chars (fun c => signsL.elem c) s m Q ?_
          simpa [a', b'] using hc
      · rename_i b
        have b' : ¬ s.length ≤ 12 := by omega
        simpa [b'] using hc
    · rename_i a
      have a' : ¬ 1 ≤ s.length := by omega
      simpa [a'] using hc
  | _ => exact h
theorem ixN0 {n : Nat} : ixN (n + 1) 0 = some 0 := by unfold ixN; simp
theorem cut1 (c : Nat) (s : List Nat) : cut (c :: s) (some 1) none = s := by
  unfold cut
  have e1 : HT.sIx (c :: s).length 0 (some 1) = 1 := by
    rw [show (some 1 : Option Int) = some ((1 : Nat) : Int) from rfl, HT.sIx_nat]
    simp
  rw [e1, HT.sIx_none]
  simp
theorem w_is_token {c : Cfg} (L : TokC c) : WOk c 1 b_is_token pr_is_token := wok L.mono <| by
  rintro ds m Q E ⟨d, ⟨rfl, hd⟩, h, _⟩
  have h := h _ _ ⟨rfl, rfl⟩
  unfold b_is_token
  simp [bodyW, startE, wpSs, wpS, wpB, wpE, wpEs, wpTs, wpP, bifD, truD_bl, truD_int, truD_str, truD_non, truD_tup, truD_lst, getw_ite, lenF, lenD_str, lenD_tup, lenD_lst, lenD_scr, cmpD, ordD, itD_tup, itD_lst, itD_scr, itD_str, itD_enT, itD_enL, tgD, tgDs, wipes, muQ, isi_str hd]
  cases d with
  | str s =>
    cases s with
    | nil =>
      have h : Q (.bl false) m := h
      simpa [strB', eqD, res, D.data, D.dep, D.eqv] using h
    | cons c r =>
      have h : Q (.bl (tokS (c :: r))) m := h
      have at0 : atD m (.str (c :: r)) (.int 0) = some (.str [c]) := by simp [atD, atI, ixN0]
      simp [strB', eqD, res, D.data, D.dep, D.eqv, at0, inD, slD, cut1, L.BRACKETS, brT, L.is_name, L.is_word, inSeq, D.flat]
      simp only [tokS] at h
      by_cases h1 : c = 64 ∨ c = 35 ∨ c = 126 ∨ c = 38
      · rw [if_pos h1]
        rw [if_pos (by simpa using h1)] at h
        first | exact use_is_name rfl h | exact use_is_word rfl h
      · rw [if_neg h1]
        rw [if_neg (by simpa using h1)] at h
        by_cases h2 : c = 94
        · rw [if_pos h2]
          rw [if_pos h2] at h
          first | exact use_is_name rfl h | exact use_is_word rfl h
        · rw [if_neg h2]
          rw [if_neg h2] at h
          by_cases h3 : isBr (c :: r) = true
          · have h4 : 123 = c ∧ r = [] ∨ 125 = c ∧ r = [] ∨ 91 = c ∧ r = [] ∨ 93 = c ∧ r = [] := by
              simp [isBr] at h3
              rcases h3 with ((h3 | h3) | h3) | h3 <;> simp [h3.1, h3.2]
            rw [if_pos h4]
            rw [h3, Bool.true_or] at h
            have e : (123 == c && r.isEmpty || (125 == c && r.isEmpty || (91 == c && r.isEmpty || 93 == c && r.isEmpty))) = true := by
              rcases h4 with h3 | h3 | h3 | h3 <;> simp [← h3.1, h3.2]
            rw [e]; exact h
          · have h4 : ¬ (123 = c ∧ r = [] ∨ 125 = c ∧ r = [] ∨ 91 = c ∧ r = [] ∨ 93 = c ∧ r = []) := fun h4 => h3 (by
              rcases h4 with h3 | h3 | h3 | h3 <;> simp [isBr, ← h3.1, h3.2])
            rw [if_neg h4]
            have h3 : isBr (c :: r) = false := by simpa using h3
            rw [h3, Bool.false_or] at h
            first | exact use_is_name rfl h | exact use_is_word rfl h
  | _ => exact h
theorem opt_isn (o : Option (List Nat)) (m : MH) : cmpD m .isn (match o with | some s => D.str s | none => D.non) .non = some o.isSome := by cases o <;> simp [cmpD, isD, isN]
def opD : Option (List Nat) → D
  | none => .non
  | some s => .str s
def Opn (o : Option (List Nat)) : Prop := ∀ s, o = some s → s = [123] ∨ s = [91]
theorem cmp_isn (o : Option (List Nat)) (m : MH) : cmpD m .isn (opD o) .non = some o.isSome := by cases o <;> simp [opD, cmpD, isD, isN]
theorem cmp_is (o : Option (List Nat)) (m : MH) : cmpD m .is_ (opD o) .non = some (!o.isSome) := by cases o <;> simp [opD, cmpD, isD, isN]
theorem cmp_isn' (o : Option (List Nat)) (m : MH) : Option.map not (isD m (opD o) .non) = some o.isSome := by cases o <;> simp [opD, isD, isN]
theorem cmp_is' (o : Option (List Nat)) (m : MH) : isD m (opD o) .non = some (!o.isSome) := by cases o <;> simp [opD, isD, isN]
theorem pairs_yes {s : List Nat} (h : s = [123] ∨ s = [91]) : pairsT.lookup s = some (.str (pairS s)) := by
  rcases h with rfl | rfl <;> rfl
theorem pairs_no {s : List Nat} (h : ¬ (s = [123] ∨ s = [91])) : pairsT.lookup s = none := by
  rw [not_or] at h
  have h1 : (s == [123]) = false := by simpa using h.1
  have h2 : (s == [91]) = false := by simpa using h.2
  simp [pairsT, List.lookup_cons, h1, h2]
theorem in_br (m : MH) (s : List Nat) : inD m (.str s) (.tup [.str [123], .str [125], .str [91], .str [93]]) = some (isBr s) := by
  have e : ∀ t : List Nat, (t == s) = (s == t) := fun t => by rw [Bool.eq_iff_iff]; simp only [beq_iff_eq]; exact eq_comm
  have k : inSeq (.str s) [.str [123], .str [125], .str [91], .str [93]] = some (isBr s) := by
    simp only [inSeq, D.flat, D.eqv, isBr, List.all_cons, List.all_nil, List.any_cons, List.any_nil, Bool.and_self, if_true, Bool.or_false]
    rw [e [123], e [125], e [91], e [93]]
    cases (s == [123]) <;> cases (s == [125]) <;> cases (s == [91]) <;> cases (s == [93]) <;> rfl
  cases s with
  | nil => exact k
  | cons c r => cases r <;> exact k
theorem w_first_wrong {c : Cfg} (L : TokC c) : WOk c 4 b_first_wrong pr_first_wrong := wok L.mono <| by
  rintro ds m Q E ⟨xs, ⟨rfl, hx⟩, h, _⟩
  have h := h _ _ ⟨rfl, rfl⟩
  unfold b_first_wrong
  simp [bodyW, startE, wpSs, wpS, wpB, wpE, wpEs, wpTs, wpP, bifD, truD_bl, truD_int, truD_str, truD_non, truD_tup, truD_lst, getw_ite, lenF, lenD_str, lenD_tup, lenD_lst, lenD_scr, cmpD, ordD, itD_tup, itD_lst, itD_scr, itD_str, itD_enT, itD_enL, tgD, tgDs, wipes, muQ, ]
  refine for_i L.mono (g := none) (fun i ρ m' => m' = m ∧ ∃ op a b, ρ = [some (.tup xs), some (opD op), a, b] ∧ Opn op ∧ fwGo xs 0 none = fwGo (xs.drop i) i op) ⟨rfl, none, none, none, rfl, fun _ e => (by cases e), rfl⟩ (fun _ _ _ _ _ => trivial) ?_ ?_
  · rintro i d ρ m' ed ⟨rfl, op, a, b, rfl, ho, hf⟩
    have hi : i < xs.length := by
      have := (List.getElem?_eq_some_iff.mp ed).1
      rwa [enumD_len] at this
    rw [enumD_get xs 0 i xs[i] (List.getElem?_eq_getElem hi)] at ed
    cases ed
    have ht := hx xs[i] (List.getElem_mem hi)
    rw [List.drop_eq_getElem_cons hi] at hf
    generalize xs[i] = d at ht hf ⊢
    unfold l_first_wrong_1
    simp [bodyW, startE, wpSs, wpS, wpB, wpE, wpEs, wpTs, wpP, bifD, truD_bl, truD_int, truD_str, truD_non, truD_tup, truD_lst, getw_ite, lenF, lenD_str, lenD_tup, lenD_lst, lenD_scr, cmpD, ordD, itD_tup, itD_lst, itD_scr, itD_str, itD_enT, itD_enL, tgD, tgDs, wipes, muQ, L.BRACKETS, brT, L.PAIRS, L.is_token]
    have hE : fwGo xs 0 none = .error i → Q (.int i) m' := fun e => by
      have h' : Q (optD (firstW xs)) m' := h
      unfold firstW at h'
      rw [e] at h'
      exact h'
    refine use_is_token ht ?_
    cases d with
    | str s =>
      cases ts : tokS s with
      | false =>
        simp [strB', ts, truD_bl]
        exact hE (by rw [hf]; simp [fwGo, ts])
      | true =>
        simp [strB', ts, truD_bl]
        by_cases h1 : s = [123] ∨ s = [91]
        · rw [pairs_yes h1]
          simp only [Option.isSome_some, if_true]
          rw [cmp_isn' op]
          cases op with
          | some o =>
            simp
            exact hE (by rw [hf]; simp [fwGo, ts, h1])
          | none =>
            simp
            exact ⟨some s, rfl, fun _ e => (by cases e; exact h1), by rw [hf]; simp [fwGo, ts, h1]⟩
        · rw [pairs_no h1]
          rw [in_br]
          by_cases h2 : s = [125] ∨ s = [93]
          · have hb : isBr s = true := by rcases h2 with rfl | rfl <;> rfl
            simp [hb, cmp_is']
            cases op with
            | none =>
              simp
              exact hE (by rw [hf]; simp [fwGo, ts, h1, h2])
            | some o =>
              simp [opD, pairs_yes (ho o rfl), eqD, res, D.data, D.dep, D.eqv]
              by_cases h3 : pairS o = s
              · rw [if_pos h3]
                exact ⟨none, rfl, fun _ e => (by cases e), by rw [hf]; simp [fwGo, ts, h1, h2, h3]⟩
              · rw [if_neg h3]
                exact hE (by rw [hf]; simp [fwGo, ts, h1, h2, h3])
          · have hb : isBr s = false := by
              rw [not_or] at h1 h2
              simp [isBr, h1.1, h1.2, h2.1, h2.2]
            simp [hb]
            exact ⟨op, rfl, ho, by rw [hf]; simp [fwGo, ts, h1, h2]⟩
    | _ =>
      simp [strB', truD_bl]
      exact hE (by rw [hf]; simp [fwGo])
  · rintro ρ m' ⟨rfl, op, a, b, rfl, ho, hf⟩
    rw [enumD_len, List.drop_length] at hf
    have h : Q (optD (firstW xs)) m' := h
    unfold firstW at h
    rw [hf] at h
    simp [bodyW, startE, wpSs, wpS, wpB, wpE, wpEs, wpTs, wpP, bifD, truD_bl, truD_int, truD_str, truD_non, truD_tup, truD_lst, getw_ite, lenF, lenD_str, lenD_tup, lenD_lst, lenD_scr, cmpD, ordD, itD_tup, itD_lst, itD_scr, itD_str, itD_enT, itD_enL, tgD, tgDs, wipes, muQ, L.MOST_TOKENS, cmp_isn' op]
    cases op with
    | some o => simpa [fwGo, optD] using h
    | none =>
      simp [fwGo] at h
      simp
      split
      · rename_i hl
        rw [if_pos (by omega)] at h
        exact h
      · rename_i hl
        rw [if_neg (by omega)] at h
        exact h
theorem tyds (ws : List (List Nat)) (m : MH) : ∀ x ∈ ws.map D.str, Tyd m x := fun x hx => by
  obtain ⟨w, _, rfl⟩ := List.mem_map.mp hx; rfl
theorem isi_tup (m : MH) (xs : List D) : isiF m [.tup xs, .ty "tuple"] = some (.bl true) := by simp [isiF, tyD, tyNames, isiTy]
theorem non_isn (m : MH) : cmpD m .isn .non .non = some false := by simp [cmpD, isD, isN]
theorem opt_isn' (o : Option Nat) (m : MH) : Option.map not (isD m (optD o) .non) = some o.isSome := by cases o <;> simp [optD, isD, isN]
theorem opt_is' (o : Option Nat) (m : MH) : isD m (optD o) .non = some o.isNone := by cases o <;> simp [optD, isD, isN]
theorem fw_strs : ∀ (ws : List D) (i : Nat) (op op' : Option (List Nat)), fwGo ws i op = .ok op' → ∀ w ∈ ws, ∃ s, w = .str s ∧ tokS s = true
  | [], _, _, _, _, w, h => by simp at h
  | v :: ws, i, op, op', e, w, h => by
    cases v with
    | str v =>
      unfold fwGo at e
      simp only at e
      split at e
      · cases e
      · rename_i h1
        have h1 : tokS v = true := by simpa using h1
        have rest : ∀ i op, fwGo ws i op = .ok op' → ∃ s, w = .str s ∧ tokS s = true := fun i op e => by
          rcases List.mem_cons.mp h with rfl | h
          · exact ⟨v, rfl, h1⟩
          · exact fw_strs ws i op op' e w h
        split at e
        · split at e
          · cases e
          · exact rest _ _ e
        · split at e
          · split at e
            · cases e
            · split at e
              · exact rest _ _ e
              · cases e
          · exact rest _ _ e
    | _ => unfold fwGo at e; cases e
theorem firstW_strs {xs : List D} (h : firstW xs = none) : ∀ w ∈ xs, ∃ s, w = .str s ∧ tokS s = true := by
  unfold firstW at h
  split at h
  · cases h
  · rename_i op e
    exact fw_strs xs 0 none op e
theorem w_is_tokens {c : Cfg} (L : TokC c) : WOk c 3 b_is_tokens pr_is_tokens := wok L.mono <| by
  rintro ds m Q E ⟨⟨d, b⟩, ⟨rfl, hd, hi⟩, h, _⟩
  have h := h _ _ ⟨rfl, rfl⟩
  unfold b_is_tokens
  simp [bodyW, startE, wpSs, wpS, wpB, wpE, wpEs, wpTs, wpP, bifD, truD_bl, truD_int, truD_str, truD_non, truD_tup, truD_lst, getw_ite, lenF, lenD_str, lenD_tup, lenD_lst, lenD_scr, cmpD, ordD, itD_tup, itD_lst, itD_scr, itD_str, itD_enT, itD_enL, tgD, tgDs, wipes, muQ, isi_tupD hd, L.first_wrong]
  cases d with
  | tup xs =>
    simp only [isTupB]
    simp
    refine use_first_wrong (hi xs rfl) ?_
    simp only [opt_isn', getw_some]
    cases e : firstW xs with
    | some i => simpa [toksB, e] using h
    | none =>
      simp
      cases b with
      | false => simpa [toksB, e] using h
      | true =>
        simp
        have hs := firstW_strs e
        simp only [L.BRACKETS, getw_some]
        refine comp_pure (fun d => some (.bl (isBrD d))) ?_ ?_
        · intro d hd K hK
          obtain ⟨s, rfl, _⟩ := hs d hd
          simp only [brT, in_br, getw_some]
          exact hK
        · rw [filterMap_some, List.nil_append]
          have eb : boolsOf (xs.map (fun d => D.bl (isBrD d))) = some (xs.map isBrD) := boolsOf_map _ _
          simp only [muQ, anyF, lstOf, Option.bind_some, eb, Option.map_some, getw_some, truD_bl]
          simpa [toksB, e, List.any_map] using h
  | _ => exact h
/-! ### tokens, in plain words -/
theorem fw_toks : ∀ (ws : List (List Nat)) (i : Nat) (op op' : Option (List Nat)), fwGo (ws.map .str) i op = .ok op' → ∀ w ∈ ws, tokS w = true
  | [], _, _, _, _, w, h => by simp at h
  | v :: ws, i, op, op', e, w, h => by
    rw [List.map_cons] at e
    unfold fwGo at e
    simp only at e
    split at e
    · cases e
    · rename_i h1
      have h1 : tokS v = true := by simpa using h1
      have rest : ∀ i op, fwGo (ws.map .str) i op = .ok op' → tokS w = true := fun i op e => by
        rcases List.mem_cons.mp h with rfl | h
        · exact h1
        · exact fw_toks ws i op op' e w h
      split at e
      · split at e
        · cases e
        · exact rest _ _ e
      · split at e
        · split at e
          · cases e
          · split at e
            · exact rest _ _ e
            · cases e
        · exact rest _ _ e
theorem Toks.facts {ws : List (List Nat)} (h : Toks ws) : ws.length ≤ 40 ∧ ∀ w ∈ ws, tokS w = true := by
  unfold Toks firstW at h
  split at h
  · cases h
  · rename_i op e
    split at h
    · cases h
    · rename_i h2
      rw [List.length_map] at h2
      exact ⟨by omega, fw_toks ws 0 none op e⟩
theorem fw_plain : ∀ (ws : List (List Nat)) (r : List D) (i : Nat) (op : Option (List Nat)), Plain ws → fwGo (ws.map .str ++ r) i op = fwGo r (i + ws.length) op
  | [], r, i, op, _ => rfl
  | w :: ws, r, i, op, h => by
    obtain ⟨h1, h2⟩ := h w (by simp)
    rw [List.map_cons, List.cons_append]
    have hb : ¬ (w = [123] ∨ w = [91]) ∧ ¬ (w = [125] ∨ w = [93]) := by
      constructor <;> rintro (rfl | rfl) <;> cases h2
    rw [show fwGo (D.str w :: (ws.map D.str ++ r)) i op = fwGo (ws.map D.str ++ r) (i + 1) op from by simp [fwGo, h1, hb.1, hb.2]]
    rw [fw_plain ws r (i + 1) op fun x hx => h x (List.mem_cons_of_mem _ hx), List.length_cons]
    have e : i + 1 + ws.length = i + (ws.length + 1) := by omega
    rw [e]
theorem Plain.toks {ws : List (List Nat)} (h : Plain ws) (hl : ws.length ≤ 40) : Toks ws := by
  unfold Toks firstW
  have := fw_plain ws [] 0 none h
  rw [List.append_nil] at this
  rw [this]
  simp [fwGo, hl]
theorem word_len {w : List Nat} (h : wordB w = true) : 1 ≤ w.length ∧ w.length ≤ 12 ∧ ∀ c ∈ w, c ∈ signsL := by
  simp [wordB] at h
  exact ⟨by omega, h.1.2, h.2⟩
theorem name_len {w : List Nat} (h : nameB w = true) : 1 ≤ w.length ∧ w.length ≤ 8 ∧ ∀ c ∈ w, c ∈ smallL := by
  simp [nameB] at h
  exact ⟨by omega, h.1.2, h.2⟩
theorem not_sign : 32 ∉ signsL := by decide
theorem not_small : 32 ∉ smallL := by decide
theorem tok_facts {w : List Nat} (h : tokS w = true) : w ≠ [] ∧ w.length ≤ 13 ∧ 32 ∉ w := by
  cases w with
  | nil => cases h
  | cons c r =>
    refine ⟨by simp, ?_⟩
    simp only [tokS] at h
    split at h
    · rename_i h1
      have h1 : c = 64 ∨ c = 35 ∨ c = 126 ∨ c = 38 := by simpa using h1
      obtain ⟨a, b, d⟩ := name_len h
      refine ⟨by simp; omega, fun z => ?_⟩
      rcases List.mem_cons.mp z with z | z
      · omega
      · exact not_small (d _ z)
    · split at h
      · rename_i h1
        obtain ⟨a, b, d⟩ := word_len h
        refine ⟨by simp; omega, fun z => ?_⟩
        rcases List.mem_cons.mp z with z | z
        · omega
        · exact not_sign (d _ z)
      · rw [Bool.or_eq_true] at h
        rcases h with h | h
        · have h : (((c :: r = [123] ∨ c :: r = [125]) ∨ c :: r = [91]) ∨ c :: r = [93]) := by simpa [isBr] using h
          rcases h with ((h | h) | h) | h <;> (rw [h]; decide)
        · obtain ⟨a, b, d⟩ := word_len h
          exact ⟨by omega, fun z => not_sign (d _ z)⟩
end Lb
end PT
end
section
set_option linter.all false
set_option maxRecDepth 100000
set_option maxHeartbeats 4000000
namespace PT
namespace Lb
open PySem PySem.Spec PyProof.Rows L2

theorem atI_nat {α : Type} {xs : List α} {k : Nat} (h : k < xs.length) : atI xs (k : Int) = some xs[k] := by
  have e : ixN xs.length (k : Int) = some k := by
    unfold ixN
    rw [if_pos (by omega)]
    rw [if_pos (by omega)]
    simp
  unfold atI
  rw [e]
  simp [h]
theorem mulD_l {i j : Int} (h : i.natAbs < 2 ^ 63) : mulD (.int i) (.int j) = some (.int (i * j)) := by simp [mulD, h]
theorem mulD_r {i j : Int} (h : j.natAbs < 2 ^ 63) : mulD (.int i) (.int j) = some (.int (i * j)) := by simp [mulD, h]
theorem modD_i {i j : Int} (h : 0 < j) : modD (.int i) (.int j) = some (.int (i % j)) := by simp [modD, h]
theorem fdivD_i {i j : Int} (h : 0 < j) (h2 : j < 1073741824) : fdivD (.int i) (.int j) = some (.int (i / j)) := by simp [fdivD, h, h2]
theorem addD_i {m : MH} {i j : Int} : addD m (.int i) (.int j) = some (.int (i + j)) := rfl
theorem cut_map {α β : Type} (f : α → β) (xs : List α) (lo hi : Option Int) : cut (xs.map f) lo hi = (cut xs lo hi).map f := by simp [cut, List.map_drop, List.map_take]
theorem w_law_cell {c : Cfg} (L : GenC c) : WOk c 4 b__law_cell pr_law_cell := wok L.mono <| by
  rintro ds m Q E ⟨⟨ns, k⟩, ⟨rfl, hk⟩, h, _⟩
  replace h : ∀ i, Q (.int i) m := fun i => h _ _ ⟨i, rfl, rfl⟩
  replace hk : k ≤ 1000 := hk
  unfold b__law_cell
  have kk : mulD (.int k) (.int k) = some (.int (k * k)) := mulD_l (by omega)
  have k7 : mulD (.int 7) (.int k) = some (.int (7 * k)) := mulD_l (by decide)
  have k6 : ∀ j, mulD (.int 60013) (.int j) = some (.int (60013 * j)) := fun j => mulD_l (by decide)
  simp [bodyW, startE, wpSs, wpS, wpB, wpE, wpEs, wpTs, wpP, bifD, truD_bl, truD_int, truD_str, truD_non, truD_tup, truD_lst, getw_ite, lenF, lenD_str, lenD_tup, lenD_lst, lenD_scr, cmpD, ordD, itD_tup, itD_lst, itD_scr, itD_str, itD_enT, itD_enL, tgD, tgDs, wipes, muQ, binD, kk, k7, k6, addD, modD, slD, cut_map]
  split
  · rename_i hl
    have hl : k < ns.length := by omega
    have e : atD m (.scr (ns.map .int)) (.int k) = some (.int ns[k]) := by
      show atI _ _ = _
      rw [atI_nat (by rw [List.length_map]; exact hl)]
      simp
    rw [e]
    exact h _
  · refine for_i L.mono (g := none) (fun i ρ m' => m' = m ∧ ∃ s x, ρ = [some (.scr (ns.map .int)), some (.int k), some (.int s), x]) ⟨rfl, _, _, rfl⟩ (fun _ _ _ _ _ => trivial) ?_ ?_
    · rintro i d ρ m' ed ⟨rfl, s, x, rfl⟩
      rw [List.getElem?_map] at ed
      obtain ⟨z, _, rfl⟩ := Option.map_eq_some_iff.mp ed
      unfold l__law_cell_1
      have k3 : mulD (.int s) (.int 30011) = some (.int (s * 30011)) := mulD_r (by decide)
      simp [bodyW, startE, wpSs, wpS, wpB, wpE, wpEs, wpTs, wpP, bifD, truD_bl, truD_int, truD_str, truD_non, truD_tup, truD_lst, getw_ite, lenF, lenD_str, lenD_tup, lenD_lst, lenD_scr, cmpD, ordD, itD_tup, itD_lst, itD_scr, itD_str, itD_enT, itD_enL, tgD, tgDs, wipes, muQ, binD, k3, addD, modD]
    · rintro ρ m' ⟨rfl, s, x, rfl⟩
      simp [bodyW, startE, wpSs, wpS, wpB, wpE, wpEs, wpTs, wpP, bifD, truD_bl, truD_int, truD_str, truD_non, truD_tup, truD_lst, getw_ite, lenF, lenD_str, lenD_tup, lenD_lst, lenD_scr, cmpD, ordD, itD_tup, itD_lst, itD_scr, itD_str, itD_enT, itD_enL, tgD, tgDs, wipes, muQ, ]
      exact h s
theorem w_law_purse {c : Cfg} (L : GenC c) : WOk c 1 b__law_purse pr_law_purse := wok L.mono <| by
  rintro ds m Q E ⟨i, rfl, h, _⟩
  replace h : ∀ p, m p = none → ∀ s t n, Q (.ref p) (m.set p (PurD s t n)) := fun p hp s t n => h _ _ ⟨p, s, t, n, hp, rfl, rfl⟩
  unfold b__law_purse
  have k3 : ∀ s, mulD (.int s) (.int 7001) = some (.int (s * 7001)) := fun s => mulD_r (by decide)
  simp [bodyW, startE, wpSs, wpS, wpB, wpE, wpEs, wpTs, wpP, bifD, truD_bl, truD_int, truD_str, truD_non, truD_tup, truD_lst, getw_ite, lenF, lenD_str, lenD_tup, lenD_lst, lenD_scr, cmpD, ordD, itD_tup, itD_lst, itD_scr, itD_str, itD_enT, itD_enL, tgD, tgDs, wipes, muQ, binD, k3, addD, modD, powD, intF]
  by_cases hi : 1000000000000000000 ≤ i
  · simp [hi]
    have e : atD m (.lst [.int 0, .int i]) (.int 1) = some (.int i) := by simp [atD, atI, ixN]
    simp [e]
    intro p hp
    exact h p hp _ _ _
  · simp [hi]
    have e : atD m (.lst [.int 0, .int i]) (.int 0) = some (.int 0) := by simp [atD, atI, ixN]
    simp [e]
    intro p hp
    exact h p hp _ _ _
theorem pat0 {m : MH} {a : Nat} {s t n : Int} : atD (m.set a (PurD s t n)) (.ref a) (.int 0) = some (.int s) := by simp [atD, MH.set_same, PurD, atI, ixN]
theorem pat1 {m : MH} {a : Nat} {s t n : Int} : atD (m.set a (PurD s t n)) (.ref a) (.int 1) = some (.int t) := by simp [atD, MH.set_same, PurD, atI, ixN]
theorem pat2 {m : MH} {a : Nat} {s t n : Int} : atD (m.set a (PurD s t n)) (.ref a) (.int 2) = some (.int n) := by simp [atD, MH.set_same, PurD, atI, ixN]
theorem pset0 {m : MH} {a : Nat} {s t n v : Int} : setD (m.set a (PurD s t n)) (.ref a) (.int 0) (.int v) = some (m.set a (PurD v t n)) := by simp [setD, MH.set_same, MH.set_set, PurD, ixN]
theorem pset1 {m : MH} {a : Nat} {s t n v : Int} : setD (m.set a (PurD s t n)) (.ref a) (.int 1) (.int v) = some (m.set a (PurD s v n)) := by simp [setD, MH.set_same, MH.set_set, PurD, ixN]
theorem pset2 {m : MH} {a : Nat} {s t n v : Int} : setD (m.set a (PurD s t n)) (.ref a) (.int 2) (.int v) = some (m.set a (PurD s t v)) := by simp [setD, MH.set_same, MH.set_set, PurD, ixN]
theorem w_law_pick {c : Cfg} (L : GenC c) : WOk c 4 b__law_pick pr_law_pick := wok L.mono <| by
  rintro ds m Q E ⟨⟨a, k⟩, ⟨rfl, ⟨s, t, n, hp⟩, k0, k1⟩, h, _⟩
  replace h : ∀ r : Int, 0 ≤ r → r < k → ∀ s t n, Q (.int r) (m.set a (PurD s t n)) := fun r a1 a2 s t n => by
    obtain ⟨z, rfl⟩ := Int.eq_ofNat_of_zero_le a1
    exact h _ _ ⟨z, a2, rfl, s, t, n, rfl⟩
  replace k0 : 0 < k := k0
  replace k1 : k < 1000000 := k1
  replace hp : m a = some (PurD s t n) := hp
  have hm : m.set a (PurD s t n) = m := MH.set_eta hp
  rw [← hm] at h ⊢
  unfold b__law_pick
  have k3 : ∀ j, mulD (.int 70003) (.int j) = some (.int (70003 * j)) := fun j => mulD_l (by decide)
  have k4 : mulD (.int (s % 1000000093)) (.int (s % 1000000093 % 40013 + 20011)) = some (.int (s % 1000000093 * (s % 1000000093 % 40013 + 20011))) := mulD_r (by omega)
  have m1 : ∀ i, modD (.int i) (.int 1000000093) = some (.int (i % 1000000093)) := fun i => modD_i (by decide)
  have m2 : ∀ i, modD (.int i) (.int 40013) = some (.int (i % 40013)) := fun i => modD_i (by decide)
  have m3 : ∀ i, modD (.int i) (.int k) = some (.int (i % k)) := fun i => modD_i k0
  have d1 : ∀ i, fdivD (.int i) (.int k) = some (.int (i / k)) := fun i => fdivD_i k0 (by omega)
  have d2 : ∀ i, fdivD (.int i) (.int 16) = some (.int (i / 16)) := fun i => fdivD_i (by decide) (by decide)
  simp [bodyW, startE, wpSs, wpS, wpB, wpE, wpEs, wpTs, wpP, bifD, truD_bl, truD_int, truD_str, truD_non, truD_tup, truD_lst, getw_ite, lenF, lenD_str, lenD_tup, lenD_lst, lenD_scr, cmpD, ordD, itD_tup, itD_lst, itD_scr, itD_str, itD_enT, itD_enL, tgD, tgDs, wipes, muQ, binD, addD_i, m1, m2, m3, d1, d2, k3, k4, pat0, pat1, pat2, pset0, pset1, pset2]
  have h : ∀ r : Int, 0 ≤ r → r < k → ∀ s' t' n', Q (.int r) (m.set a (PurD s' t' n')) := fun r a1 a2 s' t' n' => by
    have := h r a1 a2 s' t' n'
    rwa [MH.set_set] at this
  split
  · exact h _ (Int.emod_nonneg _ (by omega)) (Int.emod_lt_of_pos _ k0) _ _ _
  · exact h _ (Int.emod_nonneg _ (by omega)) (Int.emod_lt_of_pos _ k0) _ _ _
theorem Keep.set {m : MH} {a : Nat} {s t n : Int} : Keep m a (m.set a (PurD s t n)) := ⟨⟨s, t, n, MH.set_same⟩, fun b o hb e => by rw [MH.set_ne hb]; exact e⟩
theorem Keep.refl {m : MH} {a : Nat} (h : Pur m a) : Keep m a m := ⟨h, fun _ _ _ e => e⟩
theorem Keep.trans {m m1 m2 : MH} {a : Nat} (h : Keep m a m1) (g : Keep m1 a m2) : Keep m a m2 := ⟨g.1, fun b o hb e => g.2 b o hb (h.2 b o hb e)⟩
theorem pick_mono {ds : List D} {m : MH} {Q Q' : QD} {E E' : QX} (hQ : ∀ d m', Q d m' → Q' d m') (hE : ∀ x m', E x m' → E' x m') (h : pr_law_pick ds m Q E) : pr_law_pick ds m Q' E' := prG_mono _ _ _ ds m Q Q' E E' hQ hE h
/-- a draw -/
theorem pick {m : MH} {a : Nat} {k : Int} {Q : QD} {E : QX} (hp : Pur m a) (k0 : 0 < k) (k1 : k < 1000000) (h : ∀ r : Nat, (r : Int) < k → ∀ m', Keep m a m' → Q (.int r) m') : pr_law_pick [.ref a, .int k] m Q E :=
  ⟨(a, k), ⟨rfl, hp, k0, k1⟩, fun d m' ⟨r, hr, e1, s, t, n, e2⟩ => by rw [e1, e2]; exact h r hr _ .set, fun _ _ z => z.elim⟩
theorem at_str {m : MH} {L : List Nat} {r : Nat} (h : r < L.length) : atD m (.str L) (.int r) = some (.str [L[r]]) := by simp [atD, atI_nat h]
theorem at_lst {m : MH} {L : List D} {r : Nat} (h : r < L.length) : atD m (.lst L) (.int r) = some L[r] := by simp [atD, atI_nat h]
theorem joinL_one : ∀ cs : List Nat, TL.joinL [] (cs.map fun c => [c]) = cs
  | [] => rfl
  | [c] => rfl
  | c :: d :: r => by
    have ih := joinL_one (d :: r)
    show [c] ++ ([] ++ TL.joinL [] ((d :: r).map fun c => [c])) = _
    rw [ih]; rfl
theorem join_signs {m : MH} {cs : List Nat} (h : cs.length ≤ 1000) : joinM m (.str []) [.lst (cs.map fun c => D.str [c])] = some (.str cs) := by
  have e : cs.map (fun c => D.str [c]) = (cs.map fun c => [c]).map D.str := by rw [List.map_map]; rfl
  rw [e]
  have hb := joinL_len2 1 (cs.map fun c => [c]) (by intro s hs; obtain ⟨c, _, rfl⟩ := List.mem_map.mp hs; simp)
  rw [List.length_map] at hb
  simp only [joinM, seqOf, lstOf, Option.bind_some, strsOf_map, joinL_one]
  rw [if_pos (by simp at hb ⊢; omega)]
/-- signs drawn one by one -/
theorem comp_picks {m : MH} {a k n : Nat} {L : List Nat} {Q : QD} (hL : L.length = k) (k0 : 0 < k) (k1 : k < 1000000) (hp : Pur m a) (h : ∀ cs : List Nat, cs.length = n → (∀ c ∈ cs, c ∈ L) → ∀ m', Keep m a m' → Q (.lst (cs.map fun c => D.str [c])) m') :
    compW none (fun d m2 K => pr_law_pick [.ref a, .int k] m2 (fun y m4 => getw (atD m4 (.str L) y) fun z => K (some z) m4) noX) (rangeD 0 n) [] m Q := by
  refine comp_inv (g := none) ?_ (fun i acc m' => Keep m a m' ∧ ∃ cs : List Nat, acc = (cs.map fun c => D.str [c]) ∧ cs.length = i ∧ ∀ c ∈ cs, c ∈ L) ⟨.refl hp, [], rfl, rfl, by simp⟩ (fun _ _ _ _ _ => trivial) ?_ ?_
  · intro d m K K' hK z
    exact pick_mono (fun y m4 z2 => getw_mono (fun _ z3 => hK _ _ z3) z2) (fun _ _ z => z) z
  · rintro i d acc m' ed ⟨hm, cs, rfl, hl, hc⟩
    refine pick hm.1 (by omega) (by omega) fun r hr m2 h2 => ?_
    have hr : r < L.length := by omega
    rw [at_str hr]
    exact ⟨hm.trans h2, cs ++ [L[r]], by simp, by simp [hl], fun c hc' => by
      rcases List.mem_append.mp hc' with z | z
      · exact hc c z
      · rw [List.mem_singleton.mp z]; exact List.getElem_mem hr⟩
  · rintro acc m' ⟨hm, cs, rfl, hl, hc⟩
    rw [rangeD_len] at hl
    exact h cs hl hc m' hm
theorem eq_int (m : MH) (i j : Int) : eqD m (.int i) (.int j) = some (i == j) := by simp [eqD, res, D.data, D.dep, D.eqv]
def wordsL : List (List Nat) := [[104, 101, 97, 100], [112, 97, 114, 97], [114, 111, 119], [99, 108, 111, 115, 101], [97, 98, 111, 118, 101], [49, 46, 50], [70, 105, 103, 117, 114, 101], [100, 111, 110, 101], [97], [49, 50]]
theorem wordsL_ok : ∀ w ∈ wordsL, wordB w = true := by decide
def picksL : List Nat := [97, 98, 99, 100, 101, 102, 103, 104, 105, 106, 107, 108, 109, 110, 111, 112, 113, 114, 115, 116, 117, 118, 119, 120, 121, 122, 65, 66, 67, 88, 89, 90, 48, 49, 56, 57, 46, 44]
theorem picks_ok : ∀ c ∈ picksL, c ∈ signsL := by decide
theorem w_law_one_word {c : Cfg} (L : GenC c) : WOk c 3 b__law_one_word pr_law_one_word := wok L.mono <| by
  rintro ds m Q E ⟨a, ⟨rfl, hp⟩, h, _⟩
  replace h : ∀ w, wordB w = true → ∀ m', Keep m a m' → Q (.str w) m' := fun w hw m' k => h _ _ ⟨w, hw, rfl, k⟩
  unfold b__law_one_word
  simp [bodyW, startE, wpSs, wpS, wpB, wpE, wpEs, wpTs, wpP, bifD, truD_bl, truD_int, truD_str, truD_non, truD_tup, truD_lst, getw_ite, lenF, lenD_str, lenD_tup, lenD_lst, lenD_scr, cmpD, ordD, itD_tup, itD_lst, itD_scr, itD_str, itD_enT, itD_enL, tgD, tgDs, wipes, muQ, L.pick, eq_int, binD, addD_i]
  refine pick hp (by decide) (by decide) fun r hr m1 h1 => ?_
  simp [bodyW, startE, wpSs, wpS, wpB, wpE, wpEs, wpTs, wpP, bifD, truD_bl, truD_int, truD_str, truD_non, truD_tup, truD_lst, getw_ite, lenF, lenD_str, lenD_tup, lenD_lst, lenD_scr, cmpD, ordD, itD_tup, itD_lst, itD_scr, itD_str, itD_enT, itD_enL, tgD, tgDs, wipes, muQ, eq_int]
  split
  · refine pick h1.1 (by decide) (by decide) fun r hr m2 h2 => ?_
    show getw (atD _ (.lst (wordsL.map D.str)) _) _
    have hl : r < (wordsL.map D.str).length := by rw [List.length_map]; show r < 10; omega
    rw [at_lst hl]
    rw [List.getElem_map]
    exact h _ (wordsL_ok _ (List.getElem_mem _)) _ (h1.trans h2)
  · refine ⟨by simp [tyD, meT], ?_⟩
    refine pick h1.1 (by decide) (by decide) fun r hr m2 h2 => ?_
    have hk : ∃ k : Nat, atD m2 (.lst [.int 5, .int 5, .int 12]) (.int r) = some (.int k) ∧ 0 < k ∧ k ≤ 12 := by
      have hr : r = 0 ∨ r = 1 ∨ r = 2 := by omega
      rcases hr with rfl | rfl | rfl
      · exact ⟨5, rfl, by decide, by decide⟩
      · exact ⟨5, rfl, by decide, by decide⟩
      · exact ⟨12, rfl, by decide, by decide⟩
    obtain ⟨k, ek, k0, k1⟩ := hk
    rw [ek, getw_some]
    refine pick (k := (k : Int)) h2.1 (by omega) (by omega) fun r2 hr2 m3 h3 => ?_
    simp only [addD_i, getw_some]
    rw [itD_rng' (i := 1 + (r2 : Int)) (n := 1 + r2) (by omega) (by omega)]
    refine comp_picks (k := 38) rfl (by decide) (by decide) h3.1 fun cs hl hc m4 h4 => ?_
    simp [muQ, metD, join_signs (show cs.length ≤ 1000 by omega)]
    refine h cs ?_ _ (h1.trans (h2.trans (h3.trans h4)))
    simp [wordB]
    refine ⟨⟨by omega, by omega⟩, fun c hcs => picks_ok c (hc c hcs)⟩
theorem rangeD_map : ∀ (n : Nat) (lo : Int), rangeD lo n = (List.range n).map fun i : Nat => D.int (lo + i)
  | 0, _ => rfl
  | n + 1, lo => by
    rw [List.range_succ_eq_map, List.map_cons, List.map_map]
    show D.int lo :: rangeD (lo + 1) n = _
    rw [rangeD_map n (lo + 1)]
    have e : D.int (lo + ((0 : Nat) : Int)) = D.int lo := by simp
    rw [e]
    congr 1
    apply List.map_congr_left
    intro i _
    show D.int _ = D.int _
    congr 1
    omega
def lett (i : Int) : Nat := (smallL[(i % 26).toNat]?).getD 97
theorem lett_at (m : MH) (i : Int) : atD m (.str smallL) (.int (i % 26)) = some (.str [lett i]) ∧ lett i ∈ smallL := by
  have h0 : 0 ≤ i % 26 := Int.emod_nonneg _ (by decide)
  have h1 : i % 26 < 26 := Int.emod_lt_of_pos _ (by decide)
  obtain ⟨k, hk⟩ := Int.eq_ofNat_of_zero_le h0
  have hl : k < smallL.length := by show k < 26; omega
  have e : lett i = smallL[k] := by unfold lett; rw [hk]; simp [hl]
  rw [e, hk]
  exact ⟨at_str hl, List.getElem_mem hl⟩
theorem addD_s {m : MH} {s t : List Nat} (h : s.length + t.length ≤ 16777216) : addD m (.str s) (.str t) = some (.str (s ++ t)) := by
  have sl : sizeLine = 16777216 := PySem.sizeLine_eq
  simp only [addD]
  rw [if_pos (by omega)]
def someL : List (List Nat) := [[104, 101, 97, 100], [112, 97, 114, 97], [112, 97, 103, 101, 115], [105, 110, 100, 101, 120], [119, 104, 101, 110], [109, 97, 105, 110], [114, 111, 119], [100, 111, 110, 101]]
theorem someL_ok : ∀ w ∈ someL, nameB w = true := by decide
theorem someL_nd : someL.Nodup := by decide
theorem cut_to {α : Type} (xs : List α) (k : Nat) : cut xs none (some (k : Int)) = xs.take k := by
  unfold cut
  rw [HT.sIx_none, HT.sIx_nat]
  simp
theorem lett_val (i : Int) : lett i = 97 + (i % 26).toNat := by
  have h0 : 0 ≤ i % 26 := Int.emod_nonneg _ (by decide)
  have h1 : i % 26 < 26 := Int.emod_lt_of_pos _ (by decide)
  unfold lett
  have : ∀ k : Nat, k < 26 → (smallL[k]?).getD 97 = 97 + k := by decide
  exact this _ (by omega)
theorem names_nd (cs : List Nat) (r : Nat) {k : Nat} (hk : k ≤ 8) : ((List.range k).map fun i : Nat => cs ++ [lett ((r : Int) + (0 + (i : Int)))]).Nodup := by
  refine List.pairwise_map.mpr ?_
  refine (List.nodup_range (n := k)).imp_of_mem ?_
  intro a b ha hb hab e
  have ha := List.mem_range.mp ha
  have hb := List.mem_range.mp hb
  have e := List.append_cancel_left e
  rw [lett_val, lett_val] at e
  have e : 97 + (((r : Int) + (0 + (a : Int))) % 26).toNat = 97 + (((r : Int) + (0 + (b : Int))) % 26).toNat := by simpa using e
  omega
theorem w_law_names {c : Cfg} (L : GenC c) : WOk c 7 b__law_names pr_law_names := wok L.mono <| by
  rintro ds m Q E ⟨⟨a, k⟩, ⟨rfl, hp, hk⟩, h, _⟩
  replace h : ∀ ws : List (List Nat), (∀ w ∈ ws, nameB w = true) → ws.length = k → ws.Nodup → ∀ m', Keep m a m' → Q (.lst (ws.map .str)) m' := fun ws h1 h2 h3 m' kk => h _ _ ⟨ws, h1, h2, h3, rfl, kk⟩
  replace hk : k ≤ 8 := hk
  unfold b__law_names
  simp [bodyW, startE, wpSs, wpS, wpB, wpE, wpEs, wpTs, wpP, bifD, truD_bl, truD_int, truD_str, truD_non, truD_tup, truD_lst, getw_ite, lenF, lenD_str, lenD_tup, lenD_lst, lenD_scr, cmpD, ordD, itD_tup, itD_lst, itD_scr, itD_str, itD_enT, itD_enL, tgD, tgDs, wipes, muQ, L.pick]
  refine pick hp (by decide) (by decide) fun r hr m1 h1 => ?_
  simp [bodyW, startE, wpSs, wpS, wpB, wpE, wpEs, wpTs, wpP, bifD, truD_bl, truD_int, truD_str, truD_non, truD_tup, truD_lst, getw_ite, lenF, lenD_str, lenD_tup, lenD_lst, lenD_scr, cmpD, ordD, itD_tup, itD_lst, itD_scr, itD_str, itD_enT, itD_enL, tgD, tgDs, wipes, muQ, eq_int]
  split
  · show getw (slD m1 none (some (k : Int)) (.lst (someL.map D.str))) _
    simp only [slD, cut_map, cut_to]
    show Q (.lst ((someL.map D.str).take k)) m1
    rw [← List.map_take]
    exact h (someL.take k) (fun w hw => someL_ok w (List.mem_of_mem_take hw)) (by rw [List.length_take]; show min k 8 = k; omega) (someL_nd.sublist (List.take_sublist _ _)) _ h1
  · refine ⟨by simp [tyD, meT], ?_⟩
    refine pick h1.1 (by decide) (by decide) fun r hr m2 h2 => ?_
    rw [itD_rng (by omega)]
    refine comp_picks (k := 26) rfl (by decide) (by decide) h2.1 fun cs hl hc m3 h3 => ?_
    simp [muQ, metD, join_signs (show cs.length ≤ 1000 by omega)]
    refine pick h3.1 (by decide) (by decide) fun r4 hr4 m4 h4 => ?_
    rw [itD_rng (by omega)]
    refine comp_pure (fun d => match d with | D.int i => some (D.str (cs ++ [lett (r4 + i)])) | _ => none) ?_ ?_
    · intro d hd K hK
      rw [rangeD_map] at hd
      obtain ⟨i, _, rfl⟩ := List.mem_map.mp hd
      simp only [binD, addD_i, getw_some, modD_i (show (0 : Int) < 26 by decide)]
      show getw (atD _ (.str smallL) _) _
      rw [(lett_at _ _).1, getw_some, addD_s (by simp; omega)]
      exact hK
    · have e : (rangeD 0 k).filterMap (fun d => match d with | D.int i => some (D.str (cs ++ [lett (r4 + i)])) | _ => none) = ((List.range k).map fun i : Nat => cs ++ [lett (r4 + (0 + (i : Int)))]).map D.str := by
        rw [rangeD_map, List.filterMap_map, List.map_map]
        exact filterMap_some _ _
      rw [List.nil_append, e]
      refine h _ (fun w hw => ?_) (by simp) (names_nd cs r4 hk) _ (h1.trans (h2.trans (h3.trans h4)))
      obtain ⟨i, _, rfl⟩ := List.mem_map.mp hw
      simp [nameB]
      refine ⟨by omega, fun c hcs => hc c hcs, (lett_at m1 _).2⟩
end Lb
end PT
end
section
set_option linter.all false
set_option maxRecDepth 100000
set_option maxHeartbeats 4000000
namespace PT
namespace Lb
open PySem PySem.Spec PyProof.Rows L2

theorem Keep.put {m m' : MH} {a p : Nat} {o : MO} (h : Keep m a m') (hp : m p = none) (ne : p ≠ a) : Keep m a (m'.set p o) := by
  obtain ⟨s, t, n, e⟩ := h.1
  refine ⟨⟨s, t, n, by rw [MH.set_ne (Ne.symm ne)]; exact e⟩, fun b u hb eb => ?_⟩
  have : b ≠ p := fun z => by rw [z, hp] at eb; cases eb
  rw [MH.set_ne this]
  exact h.2 b u hb eb
theorem Keep.new {m m' : MH} {a p : Nat} (h : Keep m a m') (hp : m' p = none) : m p = none ∧ p ≠ a := by
  have ne : p ≠ a := fun z => by
    obtain ⟨s, t, n, e⟩ := h.1
    rw [z, e] at hp; cases hp
  refine ⟨?_, ne⟩
  cases e : m p with
  | none => rfl
  | some o => rw [h.2 p o ne e] at hp; cases hp
theorem use_one_word {m : MH} {a : Nat} {Q : QD} {E : QX} (hp : Pur m a) (h : ∀ w, wordB w = true → ∀ m', Keep m a m' → Q (.str w) m') : pr_law_one_word [.ref a] m Q E :=
  ⟨a, ⟨rfl, hp⟩, fun d m' ⟨w, hw, e, k⟩ => by rw [e]; exact h w hw m' k, fun _ _ z => z.elim⟩
theorem comp_words {m : MH} {a n : Nat} {Q : QD} (hp : Pur m a) (h : ∀ ws : List (List Nat), ws.length = n → (∀ w ∈ ws, wordB w = true) → ∀ m', Keep m a m' → Q (.lst (ws.map .str)) m') :
    compW none (fun d m2 K => pr_law_one_word [.ref a] m2 (fun y m4 => K (some y) m4) noX) (rangeD 0 n) [] m Q := by
  refine comp_inv (g := none) ?_ (fun i acc m' => Keep m a m' ∧ ∃ ws : List (List Nat), acc = ws.map .str ∧ ws.length = i ∧ ∀ w ∈ ws, wordB w = true) ⟨.refl hp, [], rfl, rfl, by simp⟩ (fun _ _ _ _ _ => trivial) ?_ ?_
  · intro d m K K' hK z
    exact prG_mono _ _ _ _ _ _ _ _ _ (fun y m4 z2 => hK _ _ z2) (fun _ _ z => z) z
  · rintro i d acc m' ed ⟨hm, ws, rfl, hl, hc⟩
    refine use_one_word hm.1 fun w hw m2 h2 => ⟨hm.trans h2, ws ++ [w], by simp, by simp [hl], fun v hv => ?_⟩
    rcases List.mem_append.mp hv with z | z
    · exact hc v z
    · rw [List.mem_singleton.mp z]; exact hw
  · rintro acc m' ⟨hm, ws, rfl, hl, hc⟩
    rw [rangeD_len] at hl
    exact h ws hl hc m' hm
theorem sign_not : ∀ c ∈ signsL, c ≠ 64 ∧ c ≠ 35 ∧ c ≠ 126 ∧ c ≠ 38 ∧ c ≠ 94 ∧ c ≠ 123 ∧ c ≠ 125 ∧ c ≠ 91 ∧ c ≠ 93 := by decide
theorem plain_word {w : List Nat} (h : wordB w = true) : tokS w = true ∧ isBr w = false := by
  obtain ⟨a, b, d⟩ := word_len h
  cases w with
  | nil => simp at a
  | cons c r =>
    obtain ⟨n1, n2, n3, n4, n5, n6, n7, n8, n9⟩ := sign_not c (d c (by simp))
    have hb : isBr (c :: r) = false := by simp [isBr, n6, n7, n8, n9]
    exact ⟨by simp [tokS, n1, n2, n3, n4, n5, hb, h], hb⟩
theorem plain_hat {w : List Nat} (h : wordB w = true) : tokS (94 :: w) = true ∧ isBr (94 :: w) = false := ⟨by simp [tokS, h], by simp [isBr]⟩
theorem plain_name {c : Nat} {w : List Nat} (hc : c = 64 ∨ c = 35 ∨ c = 126 ∨ c = 38) (h : nameB w = true) : tokS (c :: w) = true ∧ isBr (c :: w) = false := by
  rcases hc with rfl | rfl | rfl | rfl <;> exact ⟨by simp [tokS, h], by simp [isBr]⟩
theorem datas_strs : ∀ ws : List (List Nat), D.datas (ws.map .str) = true
  | [] => rfl
  | w :: r => by simp [D.datas, D.data, datas_strs r]
theorem deps_strs : ∀ ws : List (List Nat), D.deps (ws.map .str) = 0
  | [] => rfl
  | w :: r => by simp [D.deps, D.dep, deps_strs r]
theorem eqvs_strs : ∀ ws vs : List (List Nat), D.eqvs (ws.map .str) (vs.map .str) = (ws == vs)
  | [], [] => rfl
  | [], _ :: _ => rfl
  | _ :: _, [] => rfl
  | w :: r, v :: s => by
    have ih := eqvs_strs r s
    simp only [List.map_cons, D.eqvs, D.eqv, ih]
    rw [List.cons_beq_cons]
theorem eq_lsts (m : MH) (ws vs : List (List Nat)) : eqD m (.lst (ws.map .str)) (.lst (vs.map .str)) = some (ws == vs) := by
  simp [eqD, res, D.data, D.dep, datas_strs, deps_strs, D.eqv, eqvs_strs]
theorem eq_tups (m : MH) (ws vs : List (List Nat)) : eqD m (.tup (ws.map .str)) (.tup (vs.map .str)) = some (ws == vs) := by
  simp [eqD, res, D.data, D.dep, datas_strs, deps_strs, D.eqv, eqvs_strs]
theorem cut_from {α : Type} (xs : List α) (k : Nat) : cut xs (some (k : Int)) none = xs.drop k := by
  unfold cut
  rw [HT.sIx_none, HT.sIx_nat]
  by_cases h : k ≤ xs.length
  · rw [Nat.min_eq_left h]; exact List.take_of_length_le (by simp)
  · rw [Nat.min_eq_right (by omega), List.drop_length, List.drop_of_length_le (by omega)]; simp
/-- a list of texts, told or as it stands -/
def Hold (a : Nat) (m : MH) (F : D) (ws : List (List Nat)) : Prop := F = .lst (ws.map .str) ∨ ∃ p, F = .ref p ∧ p ≠ a ∧ m p = some (.lst (ws.map .str))
theorem Hold.keep {a : Nat} {m m' : MH} {F : D} {ws : List (List Nat)} (h : Hold a m F ws) (k : Keep m a m') : Hold a m' F ws := by
  rcases h with h | ⟨p, h1, h2, h3⟩
  · exact .inl h
  · exact .inr ⟨p, h1, h2, k.2 p _ h2 h3⟩
theorem Hold.len {a : Nat} {m : MH} {F : D} {ws : List (List Nat)} (h : Hold a m F ws) : lenD m F = some ws.length := by
  rcases h with rfl | ⟨p, rfl, h2, h3⟩ <;> simp [lenD, *]
theorem Hold.sl {a : Nat} {m : MH} {F : D} {ws : List (List Nat)} (h : Hold a m F ws) (lo hi : Option Int) : slD m lo hi F = some (.lst ((cut ws lo hi).map .str)) := by
  rcases h with rfl | ⟨p, rfl, h2, h3⟩ <;> simp [slD, cut_map, *]
theorem Hold.tup {a : Nat} {m : MH} {F : D} {ws : List (List Nat)} (h : Hold a m F ws) : tupF m [F] = some (.tup (ws.map .str)) := by
  rcases h with rfl | ⟨p, rfl, h2, h3⟩ <;> simp [tupF, seqOf, lstOf, *]
theorem add_lsts {m : MH} {ws vs : List (List Nat)} (h : ws.length + vs.length ≤ 16777216) : addD m (.lst (ws.map .str)) (.lst (vs.map .str)) = some (.lst ((ws ++ vs).map .str)) := by
  have sl : sizeLine = 16777216 := PySem.sizeLine_eq
  simp [addD]
  omega
theorem Plain.app {ws vs : List (List Nat)} (h : Plain ws) (g : Plain vs) : Plain (ws ++ vs) := fun w hw => (List.mem_append.mp hw).elim (h w) (g w)
theorem Plain.take {ws : List (List Nat)} (h : Plain ws) (k : Nat) : Plain (ws.take k) := fun w hw => h w (List.mem_of_mem_take hw)
theorem Plain.drop {ws : List (List Nat)} (h : Plain ws) (k : Nat) : Plain (ws.drop k) := fun w hw => h w (List.mem_of_mem_drop hw)
theorem Plain.one {w : List Nat} (h : tokS w = true ∧ isBr w = false) : Plain [w] := fun v hv => by rw [List.mem_singleton.mp hv]; exact h
theorem Plain.set {ws : List (List Nat)} (h : Plain ws) (i : Nat) {w : List Nat} (g : tokS w = true ∧ isBr w = false) : Plain (ws.set i w) := fun v hv => by
  rcases List.mem_or_eq_of_mem_set hv with z | z
  · exact h v z
  · rw [z]; exact g
theorem map_set {α β : Type} (f : α → β) (xs : List α) (i : Nat) (x : α) : (xs.map f).set i (f x) = (xs.set i x).map f := by rw [List.map_set]
theorem set_at {m : MH} {p : Nat} {ws : List (List Nat)} {i : Nat} {w : List Nat} (h : m p = some (.lst (ws.map .str))) (hi : i < ws.length) : setD m (.ref p) (.int i) (.str w) = some (m.set p (.lst ((ws.set i w).map .str))) := by
  have e : ixN (ws.map D.str).length (i : Int) = some i := by
    unfold ixN
    rw [if_pos (by omega), if_pos (by simp; omega)]
    simp
  simp only [setD, h, e, Option.map_some]
  rw [map_set]
theorem at_ref {m : MH} {p : Nat} {ws : List (List Nat)} {i : Nat} (h : m p = some (.lst (ws.map .str))) (hi : i < ws.length) : atD m (.ref p) (.int i) = some (.str ws[i]) := by
  simp only [atD, h]
  rw [atI_nat (by simp; exact hi)]
  simp
theorem plain_all {ws : List (List Nat)} (h : ∀ w ∈ ws, wordB w = true) : Plain ws := fun w hw => plain_word (h w hw)
theorem pick_if {b : Bool} {m : MH} {a : Nat} {Q : QD} {E : QX} (hp : Pur m a) (h : ∀ r : Nat, r < 4 → (b = true → r < 2) → ∀ m', Keep m a m' → Q (.int r) m') : if b = true then pr_law_pick [.ref a, .int 2] m Q E else pr_law_pick [.ref a, .int 4] m Q E := by
  cases b with
  | true => exact pick hp (by decide) (by decide) fun r hr m' k => h r (by omega) (fun _ => by omega) m' k
  | false => exact pick hp (by decide) (by decide) fun r hr m' k => h r (by omega) (fun z => by cases z) m' k
/-- plain, and bare where so asked -/
def PB (b : Bool) (ws : List (List Nat)) : Prop := Plain ws ∧ (b = true → ∀ w ∈ ws, bareS w = true)
theorem PB.app {b : Bool} {ws vs : List (List Nat)} (h : PB b ws) (g : PB b vs) : PB b (ws ++ vs) := ⟨h.1.app g.1, fun e w hw => (List.mem_append.mp hw).elim (h.2 e w) (g.2 e w)⟩
theorem PB.take {b : Bool} {ws : List (List Nat)} (h : PB b ws) (k : Nat) : PB b (ws.take k) := ⟨h.1.take k, fun e w hw => h.2 e w (List.mem_of_mem_take hw)⟩
theorem PB.drop {b : Bool} {ws : List (List Nat)} (h : PB b ws) (k : Nat) : PB b (ws.drop k) := ⟨h.1.drop k, fun e w hw => h.2 e w (List.mem_of_mem_drop hw)⟩
theorem PB.one {b : Bool} {w : List Nat} (h : tokS w = true ∧ isBr w = false) (g : b = true → bareS w = true) : PB b [w] := ⟨.one h, fun e v hv => by rw [List.mem_singleton.mp hv]; exact g e⟩
theorem PB.set {b : Bool} {ws : List (List Nat)} (h : PB b ws) (i : Nat) {w : List Nat} (g : tokS w = true ∧ isBr w = false) (k : b = true → bareS w = true) : PB b (ws.set i w) := ⟨h.1.set i g, fun e v hv => by
  rcases List.mem_or_eq_of_mem_set hv with z | z
  · exact h.2 e v z
  · rw [z]; exact k e⟩
theorem bare_word {w : List Nat} (h : wordB w = true) : bareS w = true := by
  obtain ⟨a, b, d⟩ := word_len h
  cases w with
  | nil => simp at a
  | cons c r =>
    obtain ⟨n1, n2, n3, n4, _⟩ := sign_not c (d c (by simp))
    simp [bareS, n3, n4]
theorem PB.all {b : Bool} {ws : List (List Nat)} (h : ∀ w ∈ ws, wordB w = true) : PB b ws := ⟨plain_all h, fun _ w hw => bare_word (h w hw)⟩
theorem w_law_tokens {c : Cfg} (L : GenC c) : WOk c 10 b__law_tokens pr_law_tokens := wok L.mono <| by
  rintro ds m Q E ⟨⟨a, u, ms, rs, b⟩, ⟨rfl, hp, hu, hms, hrs, hm, hr⟩, h, _⟩
  replace h : ∀ ws : List (List Nat), PB b ws → ws.length ≤ u + ms.length → ∀ m', Keep m a m' → Q (.tup (ws.map .str)) m' := fun ws h1 h2 m' k => h _ _ ⟨ws, h1.1, h1.2, h2, rfl, k⟩
  simp only at hp hu hms hrs hm hr ⊢
  unfold b__law_tokens
  simp [bodyW, startE, wpSs, wpS, wpB, wpE, wpEs, wpTs, wpP, bifD, truD_bl, truD_int, truD_str, truD_non, truD_tup, truD_lst, getw_ite, lenF, lenD_str, lenD_tup, lenD_lst, lenD_scr, cmpD, ordD, itD_tup, itD_lst, itD_scr, itD_str, itD_enT, itD_enL, tgD, tgDs, wipes, muQ, L.pick, L.one_word, binD, addD_i]
  refine pick hp (by omega) (by omega) fun n hn m1 h1 => ?_
  rw [itD_rng (by omega)]
  refine comp_words h1.1 fun ws hl hw m2 h2 => ?_
  simp [bodyW, startE, wpSs, wpS, wpB, wpE, wpEs, wpTs, wpP, bifD, truD_bl, truD_int, truD_str, truD_non, truD_tup, truD_lst, getw_ite, lenF, lenD_str, lenD_tup, lenD_lst, lenD_scr, cmpD, ordD, itD_tup, itD_lst, itD_scr, itD_str, itD_enT, itD_enL, tgD, tgDs, wipes, muQ, ]
  intro p hp
  have k2 := h1.trans h2
  obtain ⟨p0, pa⟩ := k2.new hp
  rw [show lenD (m2.set p (.lst (ws.map .str))) (.ref p) = some ws.length by simp [lenD, MH.set_same]]
  simp only [Option.map_some, getw_some]
  rw [itD_rng (by omega)]
  refine for_i L.mono (g := none) (fun i ρ m' => Keep m a m' ∧ ∃ vs x y z v, m' p = some (.lst (vs.map .str)) ∧ vs.length = ws.length ∧ PB b vs ∧ (∀ w ∈ vs.drop i, wordB w = true) ∧ ρ = [some (.ref a), some (.int u), some (.lst (ms.map .str)), some (.lst (rs.map .str)), some (.bl b), some (.ref p), x, y, z, v])
    ⟨k2.put p0 pa, ws, _, _, _, _, MH.set_same, rfl, PB.all hw, hw, rfl⟩ (fun _ _ _ _ _ => trivial) ?_ ?_
  · rintro i d ρ m' ed ⟨hk, vs, x, y, z, v, ep, el, ev, eo, rfl⟩
    have hi : i < ws.length := by
      have := (List.getElem?_eq_some_iff.mp ed).1
      rwa [rangeD_len] at this
    rw [rangeD_get _ 0 i hi] at ed
    cases ed
    have hi : i < vs.length := by omega
    have hw0 : wordB vs[i] = true := eo _ (by rw [List.drop_eq_getElem_cons hi]; exact List.mem_cons_self ..)
    have eo' : ∀ w : List Nat, ∀ u ∈ (vs.set i w).drop (i + 1), wordB u = true := fun w u hu => by
      rw [List.drop_set_of_lt (by omega)] at hu
      exact eo u (by rw [List.drop_eq_getElem_cons hi]; exact List.mem_cons_of_mem _ hu)
    have eo2 : ∀ u ∈ vs.drop (i + 1), wordB u = true := fun u hu => eo u (by rw [List.drop_eq_getElem_cons hi]; exact List.mem_cons_of_mem _ hu)
    unfold l__law_tokens_1
    simp [bodyW, startE, wpSs, wpS, wpB, wpE, wpEs, wpTs, wpP, bifD, truD_bl, truD_int, truD_str, truD_non, truD_tup, truD_lst, getw_ite, lenF, lenD_str, lenD_tup, lenD_lst, lenD_scr, cmpD, ordD, itD_tup, itD_lst, itD_scr, itD_str, itD_enT, itD_enL, tgD, tgDs, wipes, muQ, L.pick, eq_int, binD]
    refine pick hk.1 (by decide) (by decide) fun r hr m3 h3 => ?_
    have k3 := hk.trans h3
    have e3 := h3.2 p _ pa ep
    simp only [eq_int, getw_some]
    have lw := (word_len hw0).2.1
    by_cases r0 : r = 0
    · subst r0
      simp only [at_ref e3 hi, getw_some, addD_s (show [94].length + vs[i].length ≤ 16777216 by rw [List.length_singleton]; omega), set_at e3 hi, List.cons_append, List.nil_append]
      simp [eq_int]
      exact ⟨k3.put p0 pa, vs.set i _, by rw [MH.set_same, List.map_set], by simp [el], ev.set i (plain_hat hw0) (fun _ => rfl), eo' _⟩
    · have r0' : ((r : Int) == 0) = false := by simpa using r0
      simp only [r0', Bool.false_eq_true, if_false]
      by_cases r1 : r = 1
      · subst r1
        have er : eqD m3 (.lst (rs.map .str)) (.lst []) = some (rs == []) := eq_lsts m3 rs []
        simp [er]
        cases rs with
        | nil => simp; exact ⟨k3, vs, e3, el, ev, eo2⟩
        | cons r0 rr =>
          simp
          refine pick_if k3.1 fun r2 hr2 hb2 m4 h4 => ?_
          have hc : ∃ c : Nat, atD m4 (.lst [.str [35], .str [35], .str [126], .str [38]]) (.int r2) = some (.str [c]) ∧ (c = 64 ∨ c = 35 ∨ c = 126 ∨ c = 38) ∧ (b = true → c = 35) := by
            have hr : r2 = 0 ∨ r2 = 1 ∨ r2 = 2 ∨ r2 = 3 := by omega
            rcases hr with rfl | rfl | rfl | rfl
            · exact ⟨35, rfl, by decide, fun _ => rfl⟩
            · exact ⟨35, rfl, by decide, fun _ => rfl⟩
            · exact ⟨126, rfl, by decide, fun e => absurd (hb2 e) (by decide)⟩
            · exact ⟨38, rfl, by decide, fun e => absurd (hb2 e) (by decide)⟩
          obtain ⟨c, ec, hc, hbc⟩ := hc
          rw [ec, getw_some]
          refine pick (k := (((r0 :: rr).length : Nat) : Int)) h4.1 (by rw [List.length_cons]; omega) (by rw [List.length_cons] at hrs ⊢; omega) fun r5 hr5 m5 h5 => ?_
          have hr5 : r5 < (r0 :: rr).length := by omega
          have e5 := h5.2 p _ pa (h4.2 p _ pa e3)
          have hn := hr _ (List.getElem_mem hr5)
          have ln := (name_len hn).2.1
          show getw (atD m5 (.lst ((r0 :: rr).map D.str)) (.int r5)) _
          rw [at_lst (by rw [List.length_map]; exact hr5), List.getElem_map, getw_some, addD_s (by simp; omega), getw_some, set_at e5 hi, getw_some]
          exact ⟨(k3.trans (h4.trans h5)).put p0 pa, _, MH.set_same, by simp [el], ev.set i (plain_name hc hn) (fun e => by rw [hbc e]; rfl), eo' _⟩
      · have r1' : ((r : Int) == 1) = false := by simp; omega
        simp only [r1', Bool.false_eq_true, if_false]
        exact ⟨k3, vs, e3, el, ev, eo2⟩
  · rintro ρ m' ⟨hk, vs, x, y, z, v, ep, el, ev, eo, rfl⟩
    simp [bodyW, startE, wpSs, wpS, wpB, wpE, wpEs, wpTs, wpP, bifD, truD_bl, truD_int, truD_str, truD_non, truD_tup, truD_lst, getw_ite, lenF, lenD_str, lenD_tup, lenD_lst, lenD_scr, cmpD, ordD, itD_tup, itD_lst, itD_scr, itD_str, itD_enT, itD_enL, tgD, tgDs, wipes, muQ, ]
    refine for_i L.mono (g := none) (fun i ρ m' => Keep m a m' ∧ ∃ F vs x y z v, Hold a m' F vs ∧ vs.length = ws.length + i ∧ PB b vs ∧ ρ = [some (.ref a), some (.int u), some (.lst (ms.map .str)), some (.lst (rs.map .str)), some (.bl b), some F, x, y, z, v])
      ⟨hk, .ref p, vs, _, _, _, _, .inr ⟨p, rfl, pa, ep⟩, el, ev, rfl⟩ (fun _ _ _ _ _ => trivial) ?_ ?_
    · rintro i d ρ m' ed ⟨hk, F, vs, x, y, z, v, eF, el, ev, rfl⟩
      rw [List.getElem?_map] at ed
      obtain ⟨nm, en, rfl⟩ := Option.map_eq_some_iff.mp ed
      have hi : i < ms.length := (List.getElem?_eq_some_iff.mp en).1
      have hn := hm nm (List.mem_of_getElem? en)
      have ln := (name_len hn).2.1
      unfold l__law_tokens_2
      simp [bodyW, startE, wpSs, wpS, wpB, wpE, wpEs, wpTs, wpP, bifD, truD_bl, truD_int, truD_str, truD_non, truD_tup, truD_lst, getw_ite, lenF, lenD_str, lenD_tup, lenD_lst, lenD_scr, cmpD, ordD, itD_tup, itD_lst, itD_scr, itD_str, itD_enT, itD_enL, tgD, tgDs, wipes, muQ, L.pick, binD, eF.len, addD_i]
      refine pick hk.1 (by omega) (by omega) fun r hr m3 h3 => ?_
      have F3 := eF.keep h3
      have e1 : addD m3 (.lst ((vs.take r).map .str)) (.lst [.str (64 :: nm)]) = some (.lst ((vs.take r ++ [64 :: nm]).map .str)) := add_lsts (ws := vs.take r) (vs := [64 :: nm]) (by rw [List.length_take, List.length_singleton]; omega)
      have e2 : addD m3 (.lst ((vs.take r ++ [64 :: nm]).map .str)) (.lst ((vs.drop r).map .str)) = some (.lst ((vs.take r ++ [64 :: nm] ++ vs.drop r).map .str)) := add_lsts (ws := vs.take r ++ [64 :: nm]) (vs := vs.drop r) (by rw [List.length_append, List.length_singleton, List.length_take, List.length_drop]; omega)
      simp only [F3.sl, cut_to, cut_from, getw_some, addD_s (show [64].length + nm.length ≤ 16777216 by rw [List.length_singleton]; omega), List.cons_append, List.nil_append, e1, e2]
      refine ⟨hk.trans h3, _, _, .inl rfl, by rw [List.length_append, List.length_append, List.length_singleton, List.length_take, List.length_drop]; omega, ((ev.take r).app (.one (plain_name (.inl rfl) hn) (fun _ => rfl))).app (ev.drop r), rfl⟩
    · rintro ρ m' ⟨hk, F, vs, x, y, z, v, eF, el, ev, rfl⟩
      rw [List.length_map] at el
      simp [bodyW, startE, wpSs, wpS, wpB, wpE, wpEs, wpTs, wpP, bifD, truD_bl, truD_int, truD_str, truD_non, truD_tup, truD_lst, getw_ite, lenF, lenD_str, lenD_tup, lenD_lst, lenD_scr, cmpD, ordD, itD_tup, itD_lst, itD_scr, itD_str, itD_enT, itD_enL, tgD, tgDs, wipes, muQ, eF.tup]
      exact h vs ev (by omega) m' hk
theorem use_tokens {m : MH} {a u : Nat} {ms rs : List (List Nat)} {b : Bool} {Q : QD} {E : QX} (hp : Pur m a) (hu : u ≤ 1000) (hms : ms.length ≤ 1000) (hrs : rs.length ≤ 1000) (hm : ∀ w ∈ ms, nameB w = true) (hr : ∀ w ∈ rs, nameB w = true)
    (h : ∀ ws : List (List Nat), PB b ws → ws.length ≤ u + ms.length → ∀ m', Keep m a m' → Q (.tup (ws.map .str)) m') : pr_law_tokens [.ref a, .int u, .lst (ms.map .str), .lst (rs.map .str), .bl b] m Q E :=
  ⟨(a, u, ms, rs, b), ⟨rfl, hp, hu, hms, hrs, hm, hr⟩, fun d m' ⟨ws, h1, h2, h3, e, k⟩ => by rw [e]; exact h ws ⟨h1, h2⟩ h3 m' k, fun _ _ z => z.elim⟩
theorem note_toks {ts ins : List (List Nat)} {r o c : Nat} (h : Plain ts) (g : Plain ins) (hc : (o = 123 ∧ c = 125) ∨ (o = 91 ∧ c = 93)) : ∀ w ∈ ts.take r ++ [[o]] ++ ins ++ [[c]] ++ ts.drop r, tokS w = true := by
  intro w hw
  simp only [List.mem_append, List.mem_singleton] at hw
  rcases hw with (((hw | hw) | hw) | hw) | hw
  · exact (h w (List.mem_of_mem_take hw)).1
  · subst hw; rcases hc with ⟨rfl, rfl⟩ | ⟨rfl, rfl⟩ <;> rfl
  · exact (g w hw).1
  · subst hw; rcases hc with ⟨rfl, rfl⟩ | ⟨rfl, rfl⟩ <;> rfl
  · exact (h w (List.mem_of_mem_drop hw)).1
theorem in_strs (m : MH) (s : List Nat) (ts : List (List Nat)) : inD m (.str s) (.tup (ts.map .str)) = some (ts.any fun w => w == s) := by
  have k : inSeq (.str s) (ts.map .str) = some (ts.any fun w => w == s) := by
    have e : (ts.map D.str).all D.flat = true := by simp [D.flat]
    unfold inSeq
    rw [e]
    simp only [D.flat, Bool.and_self, if_true, List.any_map]
    rfl
  cases s with
  | nil => exact k
  | cons c r => cases r <;> exact k
theorem plain_in {ts : List (List Nat)} (h : Plain ts) {s : List Nat} (hs : isBr s = true) : (ts.any fun w => w == s) = false := by
  rw [List.any_eq_false]
  intro w hw e
  have e : w = s := by simpa using e
  have := (h w hw).2
  rw [e, hs] at this; cases this
theorem add_tups {m : MH} {ws vs : List (List Nat)} (h : ws.length + vs.length ≤ 16777216) : addD m (.tup (ws.map .str)) (.tup (vs.map .str)) = some (.tup ((ws ++ vs).map .str)) := by
  have sl : sizeLine = 16777216 := PySem.sizeLine_eq
  simp [addD]
  omega
theorem sl_tup {m : MH} {ws : List (List Nat)} (lo hi : Option Int) : slD m lo hi (.tup (ws.map .str)) = some (.tup ((cut ws lo hi).map .str)) := by simp [slD, cut_map]
theorem toks_note {ts ins : List (List Nat)} {r o c : Nat} (h : Plain ts) (g : Plain ins) (hc : (o = 123 ∧ c = 125) ∨ (o = 91 ∧ c = 93)) (hl : (ts.take r ++ [[o]] ++ ins ++ [[c]] ++ ts.drop r).length ≤ 40) : Toks (ts.take r ++ [[o]] ++ ins ++ [[c]] ++ ts.drop r) := by
  have e : fwGo ((ts.take r ++ [[o]] ++ ins ++ [[c]] ++ ts.drop r).map D.str) 0 none = .ok none := by
    simp only [List.map_append, List.append_assoc]
    rw [fw_plain _ _ _ _ (h.take r)]
    have e1 : ∀ (rest : List D) (i : Nat), fwGo ([[o]].map D.str ++ rest) i none = fwGo rest (i + 1) (some [o]) := fun rest i => by
      rcases hc with ⟨rfl, rfl⟩ | ⟨rfl, rfl⟩ <;> rfl
    have e2 : ∀ (rest : List D) (i : Nat), fwGo ([[c]].map D.str ++ rest) i (some [o]) = fwGo rest (i + 1) none := fun rest i => by
      rcases hc with ⟨rfl, rfl⟩ | ⟨rfl, rfl⟩ <;> rfl
    rw [e1, fw_plain _ _ _ _ g, e2]
    have := fw_plain (ts.drop r) [] (0 + (ts.take r).length + 1 + ins.length + 1) none (h.drop r)
    rw [List.append_nil] at this
    rw [this]; rfl
  unfold Toks firstW
  rw [e]
  simp only [List.length_map]
  simp
  simp at hl
  omega
theorem w_law_with_note {c : Cfg} (L : GenC c) : WOk c 6 b__law_with_note pr_law_with_note := wok L.mono <| by
  rintro ds m Q E ⟨⟨a, ts, rs⟩, ⟨rfl, hp, hrs, ht, htl, hr⟩, h, _⟩
  replace h : ∀ ws : List (List Nat), (∀ w ∈ ws, tokS w = true) → (ws.length ≤ 40 → Toks ws) → ((ws.any fun w => w == [123]) || ws.any fun w => w == [91]) = true → ws.length ≤ ts.length + 7 → ∀ m', Keep m a m' → Q (.tup (ws.map .str)) m' := fun ws h0 h1 h2 h3 m' k => h _ _ ⟨ws, h0, h1, h2, h3, rfl, k⟩
  simp only at hp hrs ht htl hr ⊢
  unfold b__law_with_note
  simp [bodyW, startE, wpSs, wpS, wpB, wpE, wpEs, wpTs, wpP, bifD, truD_bl, truD_int, truD_str, truD_non, truD_tup, truD_lst, getw_ite, lenF, lenD_str, lenD_tup, lenD_lst, lenD_scr, cmpD, ordD, itD_tup, itD_lst, itD_scr, itD_str, itD_enT, itD_enL, tgD, tgDs, wipes, muQ, L.pick, L.tokens, binD, addD_i]
  refine pick hp (by omega) (by omega) fun r hr1 m1 h1 => ?_
  refine pick h1.1 (by decide) (by decide) fun r2 hr2 m2 h2 => ?_
  have hc : ∃ o c : Nat, atD m2 (.lst [.tup [.str [123], .str [125]], .tup [.str [91], .str [93]]]) (.int r2) = some (.tup [.str [o], .str [c]]) ∧ ((o = 123 ∧ c = 125) ∨ (o = 91 ∧ c = 93)) := by
    have hr : r2 = 0 ∨ r2 = 1 := by omega
    rcases hr with rfl | rfl
    · exact ⟨123, 125, rfl, by decide⟩
    · exact ⟨91, 93, rfl, by decide⟩
  obtain ⟨o, c, ec, hc⟩ := hc
  rw [ec, getw_some]
  refine use_tokens (u := 5) (ms := []) (b := false) h2.1 (by omega) (by simp) hrs (by simp) hr fun ins hi hil m3 h3 => ?_
  replace hi := hi.1
  have e1 : inD m3 (.str [123]) (.tup (ts.map .str)) = some false := by rw [in_strs, plain_in ht (by rfl)]
  have e2 : inD m3 (.str [91]) (.tup (ts.map .str)) = some false := by rw [in_strs, plain_in ht (by rfl)]
  simp only [e1, e2, getw_some, Bool.false_eq_true, if_false]
  have s1 : slD m3 none (some 1) (.tup [.str [o], .str [c]]) = some (.tup ([[o]].map .str)) := by
    show slD m3 none (some 1) (.tup ([[o], [c]].map .str)) = _
    rw [sl_tup]; rfl
  have s2 : slD m3 (some 1) none (.tup [.str [o], .str [c]]) = some (.tup ([[c]].map .str)) := by
    show slD m3 (some 1) none (.tup ([[o], [c]].map .str)) = _
    rw [sl_tup]; rfl
  simp at hil
  have a1 : addD m3 (.tup ((ts.take r).map .str)) (.tup ([[o]].map .str)) = some (.tup ((ts.take r ++ [[o]]).map .str)) := add_tups (by simp; omega)
  have a2 : addD m3 (.tup ((ts.take r ++ [[o]]).map .str)) (.tup (ins.map .str)) = some (.tup ((ts.take r ++ [[o]] ++ ins).map .str)) := add_tups (by simp; omega)
  have a3 : addD m3 (.tup ((ts.take r ++ [[o]] ++ ins).map .str)) (.tup ([[c]].map .str)) = some (.tup ((ts.take r ++ [[o]] ++ ins ++ [[c]]).map .str)) := add_tups (by simp; omega)
  have a4 : addD m3 (.tup ((ts.take r ++ [[o]] ++ ins ++ [[c]]).map .str)) (.tup ((ts.drop r).map .str)) = some (.tup ((ts.take r ++ [[o]] ++ ins ++ [[c]] ++ ts.drop r).map .str)) := add_tups (by simp; omega)
  simp only [sl_tup, cut_to, cut_from, s1, s2, getw_some, a1, a2, a3, a4]
  have hb : (((ts.take r ++ [[o]] ++ ins ++ [[c]] ++ ts.drop r).any fun w => w == [123]) || (ts.take r ++ [[o]] ++ ins ++ [[c]] ++ ts.drop r).any fun w => w == [91]) = true := by
    rcases hc with ⟨rfl, rfl⟩ | ⟨rfl, rfl⟩ <;> simp
  exact h _ (note_toks ht hi hc) (toks_note ht hi hc) hb (by simp; omega) _ (h1.trans (h2.trans h3))
theorem use_cell {m : MH} {ns : List Int} {k : Nat} {Q : QD} {E : QX} (hk : k ≤ 1000) (h : ∀ i, Q (.int i) m) : pr_law_cell [.scr (ns.map .int), .int k] m Q E := ⟨(ns, k), ⟨rfl, hk⟩, fun d m' ⟨i, e1, e2⟩ => by rw [e1, e2]; exact h i, fun _ _ z => z.elim⟩
theorem use_purse {m : MH} {i : Int} {Q : QD} {E : QX} (h : ∀ p m', m p = none → Pur m' p → (∀ b o, m b = some o → m' b = some o) → Q (.ref p) m') : pr_law_purse [.int i] m Q E := ⟨i, rfl, fun d m' ⟨p, s, t, n, hp, e1, e2⟩ => by
  rw [e1, e2]
  exact h p _ hp ⟨s, t, n, MH.set_same⟩ fun b o e => by
    have ne : b ≠ p := fun z => by rw [z, hp] at e; cases e
    rw [MH.set_ne ne]; exact e, fun _ _ z => z.elim⟩
theorem use_names {m : MH} {a k : Nat} {Q : QD} {E : QX} (hp : Pur m a) (hk : k ≤ 8) (h : ∀ ws : List (List Nat), (∀ w ∈ ws, nameB w = true) → ws.length = k → ws.Nodup → ∀ m', Keep m a m' → Q (.lst (ws.map .str)) m') : pr_law_names [.ref a, .int k] m Q E :=
  ⟨(a, k), ⟨rfl, hp, hk⟩, fun d m' ⟨ws, h1, h2, h3, e, kk⟩ => by rw [e]; exact h ws h1 h2 h3 m' kk, fun _ _ z => z.elim⟩
theorem use_note {m : MH} {a : Nat} {ts rs : List (List Nat)} {Q : QD} {E : QX} (hp : Pur m a) (hrs : rs.length ≤ 1000) (ht : Plain ts) (htl : ts.length ≤ 1000) (hr : ∀ w ∈ rs, nameB w = true)
    (h : ∀ ws : List (List Nat), (∀ w ∈ ws, tokS w = true) → (ws.length ≤ 40 → Toks ws) → ((ws.any fun w => w == [123]) || ws.any fun w => w == [91]) = true → ws.length ≤ ts.length + 7 → ∀ m', Keep m a m' → Q (.tup (ws.map .str)) m') : pr_law_with_note [.ref a, .tup (ts.map .str), .lst (rs.map .str)] m Q E :=
  ⟨(a, ts, rs), ⟨rfl, hp, hrs, ht, htl, hr⟩, fun d m' ⟨ws, h0, h1, h2, h3, e, k⟩ => by rw [e]; exact h ws h0 h1 h2 h3 m' k, fun _ _ z => z.elim⟩
/-- how often a law goes round -/
theorem rng_mm (N n : Nat) (hN : 2 ≤ N) : ∃ k : Nat, k ≤ N ∧ (minF [.int (N : Int), .int (n : Int)]).bind (fun z => maxF [.int 2, z]) = some (.int (k : Int)) := by
  simp only [minF, maxF, Option.bind_some]
  by_cases h1 : (n : Int) < (N : Int)
  · simp only [h1, if_true]
    by_cases h2 : (2 : Int) < (n : Int)
    · rw [if_pos h2]; exact ⟨n, by omega, rfl⟩
    · rw [if_neg h2]; exact ⟨2, hN, rfl⟩
  · simp only [h1, if_false]
    by_cases h2 : (2 : Int) < (N : Int)
    · rw [if_pos h2]; exact ⟨N, by omega, rfl⟩
    · rw [if_neg h2]; exact ⟨2, hN, rfl⟩
theorem getw_bind {α β : Type} {o : Option α} {f : α → Option β} {k : β → Prop} : getw (o.bind f) k = getw o fun a => getw (f a) k := by cases o <;> rfl
end Lb
end PT
end
section
set_option linter.all false
set_option maxRecDepth 100000
set_option maxHeartbeats 4000000
namespace PT
namespace Lb
open PySem PySem.Spec PyProof.Rows L2

/-! the laws' own tokens -/
theorem w_l_is_name {c : Cfg} (L : LtkC c) : WOk c 2 b__law_is_name pr_is_name := wok L.mono <| by
  rintro ds m Q E ⟨d, ⟨rfl, hd⟩, h, _⟩
  have h := h _ _ ⟨rfl, rfl⟩
  unfold b__law_is_name
  simp [bodyW, startE, wpSs, wpS, wpB, wpE, wpEs, wpTs, wpP, bifD, truD_bl, truD_int, truD_str, truD_non, truD_tup, truD_lst, getw_ite, lenF, lenD_str, lenD_tup, lenD_lst, lenD_scr, cmpD, ordD, itD_tup, itD_lst, itD_scr, itD_str, itD_enT, itD_enL, tgD, tgDs, wipes, muQ, isi_str hd]
  cases d with
  | str s =>
    have hc : Q (.bl (nameB s)) m := h
    unfold nameB at hc
    simp [strB', lenD]
    split
    · rename_i a
      have a' : 1 ≤ s.length := by omega
      split
      · rename_i b
        have b' : s.length ≤ 8 := by omega
        refine comp_pure (fun d => match d with | .str [c] => some (.bl (smallL.elem c)) | _ => none) ?_ ?_
        · intro d hd K hK
          obtain ⟨c, _, rfl⟩ := List.mem_map.mp hd
          exact hK
        · refine all_chars (fun c => smallL.elem c) s m Q ?_
          simpa [a', b'] using hc
      · rename_i b
        have b' : ¬ s.length ≤ 8 := by omega
        simpa [b'] using hc
    · rename_i a
      have a' : ¬ 1 ≤ s.length := by omega
      simpa [a'] using hc
  | _ => exact h
theorem w_l_is_word {c : Cfg} (L : LtkC c) : WOk c 2 b__law_is_word pr_is_word := wok L.mono <| by
  rintro ds m Q E ⟨d, ⟨rfl, hd⟩, h, _⟩
  have h := h _ _ ⟨rfl, rfl⟩
  unfold b__law_is_word
  simp [bodyW, startE, wpSs, wpS, wpB, wpE, wpEs, wpTs, wpP, bifD, truD_bl, truD_int, truD_str, truD_non, truD_tup, truD_lst, getw_ite, lenF, lenD_str, lenD_tup, lenD_lst, lenD_scr, cmpD, ordD, itD_tup, itD_lst, itD_scr, itD_str, itD_enT, itD_enL, tgD, tgDs, wipes, muQ, isi_str hd]
  cases d with
  | str s =>
    have hc : Q (.bl (wordB s)) m := h
    unfold wordB at hc
    simp [strB', lenD]
    split
    · rename_i a
      have a' : 1 ≤ s.length := by omega
      split
      · rename_i b
        have b' : s.length ≤ 12 := by omega
        refine comp_pure (fun d => match d with | .str [c] => some (.bl (signsL.elem c)) | _ => none) ?_ ?_
        · intro d hd K hK
          obtain ⟨c, _, rfl⟩ := List.mem_map.mp hd
          exact hK
        · refine all_chars (fun c => signsL.elem c) s m Q ?_
          simpa [a', b'] using hc
      · rename_i b
        have b' : ¬ s.length ≤ 12 := by omega
        simpa [b'] using hc
    · rename_i a
      have a' : ¬ 1 ≤ s.length := by omega
      simpa [a'] using hc
  | _ => exact h
theorem tokS_word {s : List Nat} (h : wordB s = true) : tokS s = true := (plain_word h).1
theorem tokS_br {s : List Nat} (h : isBr s = true) : tokS s = true := by
  simp [isBr] at h
  rcases h with ((h | h) | h) | h <;> subst h <;> rfl
theorem cut0 (c : Nat) (r : List Nat) : cut (c :: r) none (some 1) = [c] := by
  rw [show (some 1 : Option Int) = some ((1 : Nat) : Int) from rfl, cut_to]; simp
theorem w_l_is_token {c : Cfg} (L : LtkC c) : WOk c 1 b__law_is_token pr_is_token := wok L.mono <| by
  rintro ds m Q E ⟨d, ⟨rfl, hd⟩, h, _⟩
  have h := h _ _ ⟨rfl, rfl⟩
  unfold b__law_is_token
  simp [bodyW, startE, wpSs, wpS, wpB, wpE, wpEs, wpTs, wpP, bifD, truD_bl, truD_int, truD_str, truD_non, truD_tup, truD_lst, getw_ite, lenF, lenD_str, lenD_tup, lenD_lst, lenD_scr, cmpD, ordD, itD_tup, itD_lst, itD_scr, itD_str, itD_enT, itD_enL, tgD, tgDs, wipes, muQ, isi_str hd, L.is_word, L.is_name]
  refine use_is_word hd ?_
  simp [bodyW, startE, wpSs, wpS, wpB, wpE, wpEs, wpTs, wpP, bifD, truD_bl, truD_int, truD_str, truD_non, truD_tup, truD_lst, getw_ite, lenF, lenD_str, lenD_tup, lenD_lst, lenD_scr, cmpD, ordD, itD_tup, itD_lst, itD_scr, itD_str, itD_enT, itD_enL, tgD, tgDs, wipes, muQ, isi_str hd]
  cases d with
  | str s =>
    have h : Q (.bl (tokS s)) m := h
    have hb : inD m (.str s) (.tup [.str [123], .str [125], .str [91], .str [93]]) = some (isBr s) := in_br m s
    cases hw : wordB s with
    | true => rw [tokS_word hw] at h; simpa [strB', hw] using h
    | false =>
      cases hbr : isBr s with
      | true => rw [tokS_br hbr] at h; simpa [strB', hw, hb, hbr] using h
      | false =>
        simp [strB', hw, hb, hbr]
        cases s with
        | nil => exact h
        | cons c r =>
          have at0 : atD m (.str (c :: r)) (.int 0) = some (.str [c]) := by simp [atD, atI, ixN0]
          have e5 : inD m (.str [c]) (.tup [.str [64], .str [35], .str [126], .str [38], .str [94]]) = some (decide (c = 64 ∨ c = 35 ∨ c = 126 ∨ c = 38 ∨ c = 94)) := by
            simp [inD, inSeq, D.flat, D.eqv]
            rw [Bool.eq_iff_iff]
            simp
            omega
          have e6 : eqD m (.str [c]) (.str [94]) = some (decide (c = 94)) := by
            simp [eqD, res, D.data, D.dep, D.eqv]
            rw [Bool.eq_iff_iff]
            simp
          simp only [slD, cut0, getw_some, at0, cut1, e5, e6, Option.map_some]
          by_cases h1 : c = 64 ∨ c = 35 ∨ c = 126 ∨ c = 38
          · have e : tokS (c :: r) = nameB r := by rcases h1 with rfl | rfl | rfl | rfl <;> rfl
            have n : c ≠ 94 := by omega
            have q : c = 64 ∨ c = 35 ∨ c = 126 ∨ c = 38 ∨ c = 94 := by omega
            rw [e] at h
            simp [q, n]
            rw [if_neg (by omega)]
            exact use_is_name (d := .str r) rfl h
          · by_cases h2 : c = 94
            · subst h2
              simp
              exact use_is_word (d := .str r) rfl h
            · have q : ¬ (c = 64 ∨ c = 35 ∨ c = 126 ∨ c = 38 ∨ c = 94) := by omega
              have q2 : ¬ (c = 64 ∨ c = 35 ∨ c = 126 ∨ c = 38) := h1
              have e : tokS (c :: r) = false := by
                simp only [tokS]
                rw [if_neg (by simpa using q2), if_neg h2, hbr, hw]; rfl
              rw [e] at h
              simp [q]
              exact h
  | _ => simpa [strB'] using h
def pairsDic : D := .dic [.str [123], .str [91]] [.str [125], .str [93]]
theorem pairs_din (m : MH) (s : List Nat) : dinD m pairsDic (.str s) = some (decide (s = [123] ∨ s = [91])) := by
  simp only [dinD, pairsDic, D.isK, if_true, dicOf, Option.map_some, lookK, List.zip_cons_cons, List.zip_nil_right, List.find?_cons, List.find?_nil, D.keq]
  by_cases h1 : s = [123]
  · subst h1; rfl
  · by_cases h2 : s = [91]
    · subst h2; rfl
    · have e1 : (([123] : List Nat) == s) = false := beq_eq_false_iff_ne.mpr (Ne.symm h1)
      have e2 : (([91] : List Nat) == s) = false := beq_eq_false_iff_ne.mpr (Ne.symm h2)
      simp [e1, e2, h1, h2]
theorem pairs_dget (m : MH) {o : List Nat} (h : o = [123] ∨ o = [91]) : dgetD m pairsDic (.str o) = some (.str (pairS o)) := by
  rcases h with rfl | rfl <;> rfl
theorem frz_dlit {m : MH} {p : Nat} {kvs : List (D × D)} (hp : m p = none) : frzD (m.set p (.dic kvs)) (.ref p) = some (.dic (kvs.map (·.1)) (kvs.map (·.2)), m) := by
  simp only [frzD, MH.set_same, MH.del_set hp]
theorem in_close (m : MH) (s : List Nat) : inD m (.str s) (.tup [.str [125], .str [93]]) = some (decide (s = [125] ∨ s = [93])) := by
  have k : inSeq (.str s) [.str [125], .str [93]] = some (decide (s = [125] ∨ s = [93])) := by
    simp only [inSeq, D.flat, D.eqv, List.all_cons, List.all_nil, List.any_cons, List.any_nil, Bool.and_self, if_true, Bool.or_false]
    by_cases h1 : s = [125]
    · subst h1; rfl
    · by_cases h2 : s = [93]
      · subst h2; rfl
      · have e1 : (([125] : List Nat) == s) = false := beq_eq_false_iff_ne.mpr (Ne.symm h1)
        have e2 : (([93] : List Nat) == s) = false := beq_eq_false_iff_ne.mpr (Ne.symm h2)
        simp [e1, e2, h1, h2]
  cases s with
  | nil => exact k
  | cons c r => cases r <;> exact k
theorem use_amiss {xs : List D} {m : MH} {Q : QD} {E : QX} (h0 : xs.length ≤ 100000) (h1 : ∀ x ∈ xs, Tyd m x) (h2 : Q (optD (firstW xs)) m) : pr_l_amiss [.tup xs] m Q E := ⟨xs, ⟨rfl, h0, h1⟩, fun _ _ ⟨e1, e2⟩ => by rw [e1, e2]; exact h2, fun _ _ z => z.elim⟩
theorem at_tup {m : MH} {L : List D} {r : Nat} (h : r < L.length) : atD m (.tup L) (.int r) = some L[r] := by simp [atD, atI_nat h]
theorem w_l_amiss {c : Cfg} (L : LtkC c) : WOk c 4 b__law_amiss pr_l_amiss := wok L.mono <| by
  rintro ds m Q E ⟨xs, ⟨rfl, hl, hx⟩, h, _⟩
  have h := h _ _ ⟨rfl, rfl⟩
  unfold b__law_amiss
  simp [bodyW, startE, wpSs, wpS, wpB, wpE, wpEs, wpTs, wpP, bifD, truD_bl, truD_int, truD_str, truD_non, truD_tup, truD_lst, getw_ite, lenF, lenD_str, lenD_tup, lenD_lst, lenD_scr, cmpD, ordD, itD_tup, itD_lst, itD_scr, itD_str, itD_enT, itD_enL, tgD, tgDs, wipes, muQ, ]
  intro p hp
  rw [frz_dlit hp]
  simp only [getw_some, tgDs, tgD, put_zero, put_succ, Option.bind_some, List.map_cons, List.map_nil, itD_rng (show xs.length ≤ 10000000 by omega)]
  refine for_i L.mono (g := none) (fun i ρ m' => m' = m ∧ ∃ op x, ρ = [some (.tup xs), some pairsDic, some (opD op), x] ∧ Opn op ∧ fwGo xs 0 none = fwGo (xs.drop i) i op) ⟨rfl, none, none, rfl, fun _ e => (by cases e), rfl⟩ (fun _ _ _ _ _ => trivial) ?_ ?_
  · rintro i d ρ m' ed ⟨rfl, op, x, rfl, ho, hf⟩
    have hi : i < xs.length := by
      have := (List.getElem?_eq_some_iff.mp ed).1
      rwa [rangeD_len] at this
    rw [rangeD_get _ 0 i hi] at ed
    cases ed
    have ht := hx xs[i] (List.getElem_mem hi)
    have ei : atD m' (.tup xs) (.int i) = some xs[i] := at_tup hi
    rw [List.drop_eq_getElem_cons hi] at hf
    generalize xs[i] = d at ht hf ei
    unfold l__law_amiss_1
    have z : (0 : Int) + (i : Int) = (i : Int) := by omega
    simp [bodyW, startE, wpSs, wpS, wpB, wpE, wpEs, wpTs, wpP, bifD, truD_bl, truD_int, truD_str, truD_non, truD_tup, truD_lst, getw_ite, lenF, lenD_str, lenD_tup, lenD_lst, lenD_scr, cmpD, ordD, itD_tup, itD_lst, itD_scr, itD_str, itD_enT, itD_enL, tgD, tgDs, wipes, muQ, z, ei, L.is_token]
    have hE : fwGo xs 0 none = .error i → Q (.int i) m' := fun e => by
      have h' : Q (optD (firstW xs)) m' := h
      unfold firstW at h'
      rw [e] at h'
      exact h'
    refine use_is_token ht ?_
    cases d with
    | str s =>
      cases ts : tokS s with
      | false =>
        simp [strB', ts, truD_bl]
        exact hE (by rw [hf]; simp [fwGo, ts])
      | true =>
        simp [strB', ts, truD_bl, pairs_din, ei]
        by_cases h1 : s = [123] ∨ s = [91]
        · rw [if_pos h1, cmp_isn' op]
          cases op with
          | some o =>
            simp
            exact hE (by rw [hf]; simp [fwGo, ts, h1])
          | none =>
            simp
            exact ⟨some s, rfl, fun _ e => (by cases e; exact h1), by rw [hf]; simp [fwGo, ts, h1]⟩
        · rw [if_neg h1, in_close]
          by_cases h2 : s = [125] ∨ s = [93]
          · simp [h2, cmp_is']
            cases op with
            | none =>
              simp
              exact hE (by rw [hf]; simp [fwGo, ts, h1, h2])
            | some o =>
              simp [opD, pairs_dget m' (ho o rfl), eqD, res, D.data, D.dep, D.eqv]
              by_cases h3 : pairS o = s
              · rw [if_pos h3]
                exact ⟨none, rfl, fun _ e => (by cases e), by rw [hf]; simp [fwGo, ts, h1, h2, h3]⟩
              · rw [if_neg h3]
                exact hE (by rw [hf]; simp [fwGo, ts, h1, h2, h3])
          · simp [h2]
            exact ⟨op, rfl, ho, by rw [hf]; simp [fwGo, ts, h1, h2]⟩
    | _ =>
      simp [strB', truD_bl]
      exact hE (by rw [hf]; simp [fwGo])
  · rintro ρ m' ⟨rfl, op, x, rfl, ho, hf⟩
    rw [rangeD_len, List.drop_length] at hf
    have h : Q (optD (firstW xs)) m' := h
    unfold firstW at h
    rw [hf] at h
    simp [bodyW, startE, wpSs, wpS, wpB, wpE, wpEs, wpTs, wpP, bifD, truD_bl, truD_int, truD_str, truD_non, truD_tup, truD_lst, getw_ite, lenF, lenD_str, lenD_tup, lenD_lst, lenD_scr, cmpD, ordD, itD_tup, itD_lst, itD_scr, itD_str, itD_enT, itD_enL, tgD, tgDs, wipes, muQ, cmp_isn' op, intF]
    cases op with
    | some o =>
      simp [fwGo] at h
      simpa [atD, atI, ixN, optD] using h
    | none =>
      simp [fwGo] at h
      simp
      by_cases hk : 40 < xs.length
      · have q : (40 : Int) < (xs.length : Int) := by omega
        simp [hk, optD] at h
        simpa [q, atD, atI, ixN] using h
      · have q : ¬ (40 : Int) < (xs.length : Int) := by omega
        simp [hk, optD] at h
        simpa [q, atD, atI, ixN] using h
end Lb
end PT
end
section
set_option linter.all false
set_option maxRecDepth 100000
set_option maxHeartbeats 4000000
namespace PT
namespace Lb
open PySem PySem.Spec PyProof.Rows L2

/-! things, shapes -/
def b_Shape___init__ : List PT.St :=
  [.seta (.var 0) "ruled" .newd,
   .seta (.var 0) "begun" (.lit (.bl false)),
   .seta (.var 0) "whens" (.lit (.int 0)),
   .seta (.var 0) "columns" (.lit .non),
   .seta (.var 0) "lines" (.lit (.int 0)),
   .seta (.var 0) "cover" .newd]
def b_Shape_is_open : List PT.St :=
  [.ret (.or (.cmp .isn (.attr (.var 0) "columns") (.lit .non)) (.cmp .gt (.attr (.var 0) "whens") (.lit (.int 0))))]
def typB : D → Bool
  | .ref _ | .ty _ | .gl _ | .exc _ _ _ _ => false
  | .obj c _ _ => !tyNames.contains c
  | _ => true
theorem typ_tyd (m : MH) {d : D} (h : typB d = true) : Tyd m d := by
  cases d <;> first | rfl | cases h | (simp only [typB] at h; simp [Tyd, tydB, insOk, tyD]; simpa using h)
/-- a thing that may be asked about -/
def Thing (d : D) : Prop := typB d = true ∧ ∀ xs, d = .tup xs → (∀ x ∈ xs, typB x = true) ∧ xs.length ≤ 1000
theorem Thing.tyd {d : D} (h : Thing d) (m : MH) : Tyd m d := typ_tyd m h.1
theorem Thing.tyi {d : D} (h : Thing d) (m : MH) : Tyi m d := ⟨h.tyd m, fun xs e x hx => typ_tyd m ((h.2 xs e).1 x hx)⟩
theorem Thing.str (s : List Nat) : Thing (.str s) := ⟨rfl, fun _ e => by cases e⟩
theorem Thing.tup {xs : List D} (h : ∀ x ∈ xs, typB x = true) (hl : xs.length ≤ 1000) : Thing (.tup xs) := ⟨rfl, fun _ e => by cases e; exact ⟨h, hl⟩⟩
theorem Thing.strs {ws : List (List Nat)} (hl : ws.length ≤ 1000) : Thing (.tup (ws.map .str)) := .tup (fun x hx => by obtain ⟨w, _, rfl⟩ := List.mem_map.mp hx; rfl) (by rw [List.length_map]; exact hl)
def thingB : D → Bool
  | .tup xs => xs.all typB && decide (xs.length ≤ 1000)
  | d => typB d
theorem thing_of {d : D} (h : thingB d = true) : Thing d := by
  cases d with
  | tup xs =>
    simp only [thingB, Bool.and_eq_true, List.all_eq_true, decide_eq_true_eq] at h
    exact .tup h.1 h.2
  | _ => exact ⟨h, fun _ e => by cases e⟩
/-- what a Shape holds -/
structure Sh where
  ruled : List (D × D) := []
  begun : Bool := false
  whens : Int := 0
  columns : Option Nat := none
  lines : Int := 0
  cover : List (D × D) := []
def Sh.o (s : Sh) (a b : Nat) : MO := .ins "Shape" [("ruled", .ref a), ("begun", .bl s.begun), ("whens", .int s.whens), ("columns", optD s.columns), ("lines", .int s.lines), ("cover", .ref b)]
/-- the Shape at p: beside it all of m0 stands -/
def ShIn (m0 m : MH) (p : Nat) (s : Sh) : Prop := ∃ a b, a ≠ b ∧ a ≠ p ∧ b ≠ p ∧ m0 p = none ∧ m0 a = none ∧ m0 b = none ∧ MH.le m0 m ∧ m p = some (s.o a b) ∧ m a = some (.dic s.ruled) ∧ m b = some (.dic s.cover)
def pr_Shape___init__ : Prom := prG (fun (g : MH × Nat) ds m => ds = [.ref g.2] ∧ m = g.1.set g.2 (.ins "Shape" []) ∧ g.1 g.2 = none) (fun g _ m r m' => r = .non ∧ ShIn g.1 m' g.2 {}) fun _ _ _ _ _ => False
def pr_Shape_is_open : Prom := prG (fun (g : MH × Nat × Sh) ds m => ds = [.ref g.2.1] ∧ ShIn g.1 m g.2.1 g.2.2) (fun g _ m r m' => r = .bl (g.2.2.columns.isSome || decide (0 < g.2.2.whens)) ∧ m' = m) fun _ _ _ _ _ => False
structure ShpF (c : Cfg) : Prop where
  mono : c.Mono
  ruled : c.fld "Shape" "ruled" = true
  begun : c.fld "Shape" "begun" = true
  whens : c.fld "Shape" "whens" = true
  columns : c.fld "Shape" "columns" = true
  lines : c.fld "Shape" "lines" = true
  cover : c.fld "Shape" "cover" = true
theorem use_Shape {m : MH} {Q : QD} {E : QX} (h : ∀ p m', m p = none → ShIn m m' p {} → Q (.ref p) m') : newP "Shape" pr_Shape___init__ [] m Q E := fun p hp =>
  ⟨(m, p), ⟨rfl, rfl, hp⟩, fun d m' ⟨e, hs⟩ => ⟨e, h p m' hp hs⟩, fun _ _ z => z.elim⟩
theorem w_Shape_init {c : Cfg} (L : ShpF c) : WOk c 1 b_Shape___init__ pr_Shape___init__ := wok L.mono <| by
  rintro ds m Q E ⟨⟨m0, p⟩, ⟨rfl, rfl, hp⟩, h, _⟩
  replace hp : m0 p = none := hp
  replace h : ∀ m', ShIn m0 m' p {} → Q .non m' := fun m' hs => h _ _ ⟨rfl, hs⟩
  unfold b_Shape___init__
  simp [bodyW, startE, wpSs, wpS, wpB, wpE, wpEs, wpTs, wpP, bifD, truD_bl, truD_int, truD_str, truD_non, truD_tup, truD_lst, getw_ite, lenF, lenD_str, lenD_tup, lenD_lst, lenD_scr, cmpD, ordD, itD_tup, itD_lst, itD_scr, itD_str, itD_enT, itD_enL, tgD, tgDs, wipes, muQ, ]
  intro a ha
  have pa : p ≠ a := fun z => by rw [z, MH.set_same] at ha; cases ha
  have m0a : m0 a = none := by rwa [MH.set_ne (Ne.symm pa)] at ha
  simp [tyD, MH.set_ne pa, MH.set_same, setFD, putFD, L.ruled, L.begun, L.whens, L.columns, L.lines, L.cover, MH.set_set]
  intro b hb
  have pb : p ≠ b := fun z => by rw [z, MH.set_same] at hb; cases hb
  have ab : a ≠ b := fun z => by rw [← z, MH.set_ne (Ne.symm pa), MH.set_same] at hb; cases hb
  rw [MH.set_ne (Ne.symm pb), MH.set_ne (Ne.symm ab), MH.set_ne (Ne.symm pb)] at hb
  simp [tyD, MH.set_ne pb, MH.set_same, setFD, putFD, L.cover, MH.set_set]
  refine h _ ⟨a, b, ab, Ne.symm pa, Ne.symm pb, hp, m0a, hb, ?_, MH.set_same, ?_, ?_⟩
  · exact MH.le_set hp (MH.le_set hb (MH.le_set hp (MH.le_set m0a (MH.le_set hp (MH.le_refl _)))))
  · rw [MH.set_ne (Ne.symm pa), MH.set_ne ab, MH.set_ne (Ne.symm pa), MH.set_same]
  · rw [MH.set_ne (Ne.symm pb), MH.set_same]
theorem use_is_open {m0 m : MH} {p : Nat} {s : Sh} {Q : QD} {E : QX} (h1 : ShIn m0 m p s) (h2 : Q (.bl (s.columns.isSome || decide (0 < s.whens))) m) : pr_Shape_is_open [.ref p] m Q E := ⟨(m0, p, s), ⟨rfl, h1⟩, fun _ _ ⟨e1, e2⟩ => by rw [e1, e2]; exact h2, fun _ _ z => z.elim⟩
theorem w_Shape_is_open {c : Cfg} (L : ShpF c) : WOk c 1 b_Shape_is_open pr_Shape_is_open := wok L.mono <| by
  rintro ds m Q E ⟨⟨m0, p, s⟩, ⟨rfl, hs⟩, h, _⟩
  replace h := h _ _ ⟨rfl, rfl⟩
  simp only at hs h ⊢
  obtain ⟨a, b, _, _, _, _, _, _, _, hp, _, _⟩ := hs
  unfold b_Shape_is_open
  simp [bodyW, startE, wpSs, wpS, wpB, wpE, wpEs, wpTs, wpP, bifD, truD_bl, truD_int, truD_str, truD_non, truD_tup, truD_lst, getw_ite, lenF, lenD_str, lenD_tup, lenD_lst, lenD_scr, cmpD, ordD, itD_tup, itD_lst, itD_scr, itD_str, itD_enT, itD_enL, tgD, tgDs, wipes, muQ, tyD, hp, Sh.o, fldD, L.columns, L.whens, List.lookup]
  cases e : s.columns with
  | some k => simpa [optD, isD, isN, e] using h
  | none =>
    simp [optD, isD, isN]
    simpa [e] using h
end Lb
end PT
end
section
set_option linter.all false
set_option maxRecDepth 100000
set_option maxHeartbeats 4000000
namespace PT
namespace k03
open PySem PySem.Spec PyProof.Rows L2 Lb
abbrev n__law_is_word : List Str := ["_law_matter", "_law_sign"]
abbrev f__law_is_word : List (String × CS) := []
abbrev n__law_is_name : List Str := ["_law_matter", "_law_sign"]
abbrev f__law_is_name : List (String × CS) := []
abbrev n__law_is_token : List Str := ["_law_matter"]
abbrev f__law_is_token : List (String × CS) := [("_law_is_word", .pl 1), ("_law_is_name", .pl 1)]
abbrev n__law_amiss : List Str := ["_law_some", "_law_pairs", "_law_begun", "_law_at"]
abbrev f__law_amiss : List (String × CS) := [("_law_is_token", .pl 1)]
abbrev n_is_name : List Str := ["thing", "sign"]
abbrev f_is_name : List (String × CS) := []
abbrev n_is_word : List Str := ["thing", "sign"]
abbrev f_is_word : List (String × CS) := []
abbrev n_is_token : List Str := ["thing"]
abbrev f_is_token : List (String × CS) := [("is_name", .pl 1), ("is_word", .pl 1)]
abbrev n_first_wrong : List Str := ["things", "opened", "place", "thing"]
abbrev f_first_wrong : List (String × CS) := [("is_token", .pl 1)]
abbrev n_check_tokens : List Str := ["thing", "place"]
def b_check_tokens : List PT.St :=
  [.ite (.not (.bi "isinstance" [(.var 0), (.lit (.ty "tuple"))]))
     [.raise "NoTokens" [(.lit .non)]]
     [],
   .asg (.nm 1) (.call "first_wrong" [(.var 0)]),
   .ite (.cmp .isn (.var 1) (.lit .non))
     [.raise "NoTokens" [(.var 1)]]
     []]
abbrev f_check_tokens : List (String × CS) := [("first_wrong", .pl 1)]
abbrev n_show_tokens : List Str := ["tokens"]
def b_show_tokens : List PT.St :=
  [.expr (.call "check_tokens" [(.var 0)]),
   .ret (.me "join" (.lit (.str [32])) [(.var 0)])]
abbrev f_show_tokens : List (String × CS) := [("check_tokens", .pl 1)]
abbrev n_words_in : List Str := ["text", "word"]
def b_words_in : List PT.St :=
  [.ret (.bi "tuple" [(.comp (.var 1) (.nm 1) .val [(.me "split" (.var 0) [(.lit (.str [32]))])] [(.cmp .ne (.var 1) (.lit (.str [])))] [1] false)])]
abbrev f_words_in : List (String × CS) := []
abbrev n_read_tokens : List Str := ["text", "tokens"]
def b_read_tokens : List PT.St :=
  [.ite (.not (.bi "isinstance" [(.var 0), (.lit (.ty "str"))]))
     [.raise "NoTokens" [(.lit .non)]]
     [],
   .asg (.nm 1) (.call "words_in" [(.var 0)]),
   .expr (.call "check_tokens" [(.var 1)]),
   .ret (.var 1)]
abbrev f_read_tokens : List (String × CS) := [("words_in", .pl 1), ("check_tokens", .pl 1)]
abbrev n__law_sort : List Str := ["_law_e", "_law_kinds", "_law_at", "_law_base", "_law_bases", "_law_some", "_law_k"]
def b__law_sort : List PT.St :=
  [.asg (.nm 1) (.lst [(.isx (.var 0) "NoTokens"), (.isx (.var 0) "NoRows"), (.isx (.var 0) "NoText"), (.isx (.var 0) "NoTexts")]),
   .asg (.nm 1) (.bin .add (.var 1) (.lst [(.isx (.var 0) "NoKind"), (.isx (.var 0) "NoSize"), (.isx (.var 0) "NoChanges"), (.isx (.var 0) "NoLine")])),
   .asg (.nm 1) (.bin .add (.var 1) (.lst [(.isx (.var 0) "NoInclude"), (.isx (.var 0) "NoStyle"), (.isx (.var 0) "NoMark")])),
   .asg (.nm 1) (.bin .add (.var 1) (.lst [(.isx (.var 0) "NoNumber")])),
   .asg (.nm 1) (.bin .add (.var 1) (.lst [(.isx (.var 0) "NoPlace"), (.isx (.var 0) "NoDocument"), (.isx (.var 0) "NoPrinting")])),
   .asg (.nm 1) (.bin .add (.var 1) (.lst [(.isx (.var 0) "Ring")])),
   .asg (.nm 1) (.bin .add (.var 1) (.lst [(.isx (.var 0) "Twice"), (.isx (.var 0) "TooMany"), (.isx (.var 0) "TooTall"), (.isx (.var 0) "Clash")])),
   .ite (.cmp .ne (.me "count" (.var 1) [(.lit (.bl true))]) (.lit (.int 1)))
     [.ret (.lit (.str [119, 114, 111, 110, 103]))]
     [],
   .asg (.nm 2) (.me "index" (.var 1) [(.lit (.bl true))]),
   .asg (.nm 3) (.bin .add (.bi "int" [(.cmp .gt (.var 2) (.lit (.int 7)))]) (.bi "int" [(.cmp .gt (.var 2) (.lit (.int 14)))])),
   .asg (.nm 4) (.lst [(.isx (.var 0) "TongueError"), (.isx (.var 0) "StandError"), (.isx (.var 0) "RoomError")]),
   .ite (.cmp .ne (.var 4) (.hcomp 0 (.cmp .eq (.var 6) (.var 3)) 6 (.lit (.int 3)) [6]))
     [.ret (.lit (.str [119, 114, 111, 110, 103]))]
     [],
   .ite (.not (.idx (.lst [(.isx (.var 0) "ValueError"), (.isx (.var 0) "LookupError"), (.isx (.var 0) "ArithmeticError")]) (.var 3)))
     [.ret (.lit (.str [119, 114, 111, 110, 103]))]
     [],
   .asg (.nm 5) (.lst [(.lit (.str [116, 111, 107, 101, 110, 115])), (.lit (.str [114, 111, 119, 115])), (.lit (.str [116, 101, 120, 116])), (.lit (.str [116, 101, 120, 116, 115])), (.lit (.str [107, 105, 110, 100])), (.lit (.str [115, 105, 122, 101])), (.lit (.str [99, 104, 97, 110, 103, 101, 115])), (.lit (.str [108, 105, 110, 101])), (.lit (.str [105, 110, 99, 108, 117, 100, 101])), (.lit (.str [115, 116, 121, 108, 101]))]),
   .asg (.nm 5) (.bin .add (.var 5) (.lst [(.lit (.str [109, 97, 114, 107])), (.lit (.str [110, 117, 109, 98, 101, 114]))])),
   .ret (.idx (.bin .add (.var 5) (.lst [(.lit (.str [112, 108, 97, 99, 101])), (.lit (.str [100, 111, 99, 117, 109, 101, 110, 116])), (.lit (.str [112, 114, 105, 110, 116, 105, 110, 103])), (.lit (.str [114, 105, 110, 103])), (.lit (.str [116, 119, 105, 99, 101])), (.lit (.str [109, 97, 110, 121])), (.lit (.str [116, 97, 108, 108])), (.lit (.str [99, 108, 97, 115, 104]))])) (.var 2))]
abbrev f__law_sort : List (String × CS) := []
abbrev n__law_told : List Str := ["_law_style", "_law_matter", "_law_e", "_law_word"]
def l__law_told_1 : List PT.St :=
  [.ite (.cmp .eq (.var 0) (.lit (.int 0)))
     [.ret (.tup [(.lit (.str [116, 111, 108, 100])), (.call "show_tokens" [(.var 1)])])]
     [],
   .ite (.cmp .eq (.var 0) (.lit (.int 1)))
     [.ret (.tup [(.lit (.str [116, 111, 108, 100])), (.callk "show_tokens" ⟨0, ["tokens"], [.k 0]⟩ [] [(.var 1)])])]
     [],
   .ite (.cmp .eq (.var 0) (.lit (.int 2)))
     [.ret (.tup [(.lit (.str [116, 111, 108, 100])), (.call "read_tokens" [(.var 1)])])]
     [],
   .ret (.tup [(.lit (.str [116, 111, 108, 100])), (.callk "read_tokens" ⟨0, ["text"], [.k 0]⟩ [] [(.var 1)])])]
def l__law_told_2 : List PT.St :=
  [.asg (.nm 3) (.xcall "_law_sort" [(.var 2)]),
   .ite (.cmp .eq (.var 3) (.lit (.str [116, 111, 107, 101, 110, 115])))
     [.ret (.tup [(.var 3), (.idx (.lst [(.xat (.var 2) "place"), (.lit (.str [116, 114, 117, 116, 104]))]) (.bi "int" [(.bi "isinstance" [(.xat (.var 2) "place"), (.lit (.ty "bool"))])]))])]
     [],
   .ret (.tup [(.var 3), (.lit .non)])]
def b__law_told : List PT.St :=
  [.tryx l__law_told_1 ["TongueError", "StandError", "RoomError"] 2 l__law_told_2]
abbrev f__law_told : List (String × CS) := [("show_tokens", .pl 1), ("show_tokens", .kw ⟨0, ["tokens"], [.k 0]⟩), ("read_tokens", .pl 1), ("read_tokens", .kw ⟨0, ["text"], [.k 0]⟩), ("_law_sort", .ht 1)]
abbrev n__law_read_right : List Str := ["_law_verse", "_law_lot", "_law_due", "_law_told_here", "_law_part", "_law_style"]
def b__law_read_right : List PT.St :=
  [.asg (.nm 1) (.bi "tuple" [(.comp (.var 4) (.nm 4) .val [(.me "split" (.var 0) [(.lit (.str [32]))])] [(.cmp .ne (.var 4) (.lit (.str [])))] [4] false)]),
   .par [2, 3] [(.call "_law_amiss" [(.var 1)]), (.comp (.call "_law_told" [(.var 5), (.var 0)]) (.nm 5) .val [(.lst [(.lit (.int 2)), (.lit (.int 3)), (.lit (.int 2))])] [] [5] false)],
   .ite (.cmp .is_ (.var 2) (.lit .non))
     [.ret (.cmp .eq (.var 3) (.bin .mul (.lst [(.tup [(.lit (.str [116, 111, 108, 100])), (.var 1)])]) (.lit (.int 3))))]
     [],
   .ret (.cmp .eq (.var 3) (.bin .mul (.lst [(.tup [(.lit (.str [116, 111, 107, 101, 110, 115])), (.var 2)])]) (.lit (.int 3))))]
abbrev f__law_read_right : List (String × CS) := [("_law_amiss", .pl 1), ("_law_told", .pl 2)]
abbrev n_Shape___init__ : List Str := ["self"]
abbrev f_Shape___init__ : List (String × CS) := []
abbrev n_Shape_is_open : List Str := ["self"]
abbrev f_Shape_is_open : List (String × CS) := []
abbrev n_first_amiss : List Str := ["rows", "shape", "place", "row"]
def l_first_amiss_1 : List PT.St :=
  [.never]
def b_first_amiss : List PT.St :=
  [.asg (.nm 1) (.call "Shape" []),
   .for_ (.tp [(.nm 2), (.nm 3)]) .enum [(.var 0)] l_first_amiss_1,
   .ret (.ite (.mth "Shape" "is_open" (.var 1) []) (.bi "len" [(.var 0)]) (.lit .non))]
abbrev f_first_amiss : List (String × CS) := [("Shape", .pl 0), ("", .me "Shape" "is_open" 0)]
abbrev n_Text___init__ : List Str := ["self", "rows", "place"]
def b_Text___init__ : List PT.St :=
  [.ite (.or (.not (.bi "isinstance" [(.var 1), (.lit (.ty "tuple"))])) (.cmp .gt (.bi "len" [(.var 1)]) (.glo "MOST_ROWS")))
     [.never]
     [],
   .asg (.nm 2) (.call "first_amiss" [(.var 1)]),
   .ite (.cmp .isn (.var 2) (.lit .non))
     [.never]
     [],
   .seta (.var 0) "rows" (.var 1)]
abbrev f_Text___init__ : List (String × CS) := [("first_amiss", .pl 1)]
abbrev n__law_kinds_right : List Str := ["_law_matter", "_law_style"]
def l__law_kinds_right_1 : List PT.St :=
  [.ite (.and (.not (.bi "isinstance" [(.var 0), (.lit (.ty "str"))])) (.cmp .ne (.comp (.call "_law_told" [(.var 1), (.var 0)]) (.nm 1) .val [(.lst [(.lit (.int 2)), (.lit (.int 3))])] [] [1] false) (.bin .mul (.lst [(.tup [(.lit (.str [116, 111, 107, 101, 110, 115])), (.lit .non)])]) (.lit (.int 2)))))
     [.ret (.lit (.bl false))]
     [],
   .ite (.cmp .ne (.comp (.call "_law_told" [(.var 1), (.var 0)]) (.nm 1) .val [(.lst [(.lit (.int 0)), (.lit (.int 1))])] [] [1] false) (.bin .mul (.lst [(.tup [(.lit (.str [116, 111, 107, 101, 110, 115])), (.lit .non)])]) (.lit (.int 2))))
     [.ret (.lit (.bl false))]
     []]
def b__law_kinds_right : List PT.St :=
  [.for_ (.nm 0) .val [(.lst [(.lit .non), (.lit (.bl true)), (.lit (.int 0)), (.lit (.int 7)), (.lit (.str [97])), (.lit (.str [])), (.lst []), (.lst [(.lit (.str [97]))]), (.frz .newd), (.frz (.callk "Text" ⟨0, [], [.d (.emp)]⟩ [] []))])] l__law_kinds_right_1,
   .ret (.cmp .eq (.comp (.call "_law_told" [(.var 1), (.tup [(.lit (.str [97]))])]) (.nm 1) .val [(.lst [(.lit (.int 2)), (.lit (.int 3))])] [] [1] false) (.bin .mul (.lst [(.tup [(.lit (.str [116, 111, 107, 101, 110, 115])), (.lit .non)])]) (.lit (.int 2))))]
abbrev f__law_kinds_right : List (String × CS) := [("Text", .kw ⟨0, [], [.d (.emp)]⟩), ("_law_told", .pl 2)]
abbrev n__law_cell : List Str := ["_law_script", "_law_k", "_law_state", "_law_cell_here"]
abbrev f__law_cell : List (String × CS) := []
abbrev n__law_purse : List Str := ["_law_cell_here"]
abbrev f__law_purse : List (String × CS) := []
abbrev n__law_pick : List Str := ["_law_purse_here", "_law_many", "_law_state", "_law_taken"]
abbrev f__law_pick : List (String × CS) := []
abbrev n__law_names : List Str := ["_law_purse_here", "_law_size", "_law_some", "_law_letters", "_law_stem", "_law_first", "_law_k"]
abbrev f__law_names : List (String × CS) := [("_law_pick", .pl 2)]
abbrev n__law_one_word : List Str := ["_law_purse_here", "_law_signs", "_law_k"]
abbrev f__law_one_word : List (String × CS) := [("_law_pick", .pl 2)]
abbrev n__law_tokens : List Str := ["_law_purse_here", "_law_upto", "_law_marks", "_law_refs", "_law_bare", "_law_found", "_law_k", "_law_sort_here", "_law_name", "_law_at"]
abbrev f__law_tokens : List (String × CS) := [("_law_pick", .pl 2), ("_law_one_word", .pl 1)]
abbrev n__law_with_note : List Str := ["_law_purse_here", "_law_tokens_here", "_law_refs", "_law_at", "_law_pair", "_law_inside"]
abbrev f__law_with_note : List (String × CS) := [("_law_pick", .pl 2), ("_law_tokens", .pl 5)]
abbrev n__law_shown_right : List Str := ["_law_lot", "_law_due", "_law_told_here", "_law_style"]
def b__law_shown_right : List PT.St :=
  [.par [1, 2] [(.call "_law_amiss" [(.var 0)]), (.comp (.call "_law_told" [(.var 3), (.var 0)]) (.nm 3) .val [(.lst [(.lit (.int 0)), (.lit (.int 1)), (.lit (.int 0))])] [] [3] false)],
   .ite (.cmp .is_ (.var 1) (.lit .non))
     [.ret (.cmp .eq (.var 2) (.bin .mul (.lst [(.tup [(.lit (.str [116, 111, 108, 100])), (.me "join" (.lit (.str [32])) [(.var 0)])])]) (.lit (.int 3))))]
     [],
   .ret (.cmp .eq (.var 2) (.bin .mul (.lst [(.tup [(.lit (.str [116, 111, 107, 101, 110, 115])), (.var 1)])]) (.lit (.int 3))))]
abbrev f__law_shown_right : List (String × CS) := [("_law_amiss", .pl 1), ("_law_told", .pl 2)]
abbrev n__law_odd : List Str := ["_law_purse_here", "_law_some"]
def b__law_odd : List PT.St :=
  [.asg (.nm 1) (.lst [(.lit .non), (.lit (.bl true)), (.lit (.int 0)), (.lit (.int 7)), (.lit (.str [])), (.lit (.str [32])), (.lit (.str [97, 32, 98])), (.lit (.str [64])), (.lit (.str [35])), (.lit (.str [94])), (.lit (.str [126, 65])), (.lit (.str [38, 97, 49])), (.lit (.str [64, 97, 98, 99, 100, 101, 102, 103, 104, 105]))]),
   .asg (.nm 1) (.bin .add (.var 1) (.lst [(.lit (.str [97, 98, 99, 100, 101, 102, 103, 104, 105, 106, 107, 108, 109])), (.lit (.str [40])), (.lit (.str [123])), (.lit (.str [125])), (.lit (.str [91])), (.lit (.str [93])), (.lit (.str [123, 97]))])),
   .asg (.nm 1) (.bin .add (.var 1) (.lst [(.tup []), (.tup [(.lit (.str [97]))]), (.lst [(.lit (.str [97]))]), (.frz .newd), (.frz (.callk "Text" ⟨0, [], [.d (.emp)]⟩ [] [])), (.lit (.str [97, 10])), (.lit (.str [97, 95, 98])), (.lit (.str [94])), (.lit (.str [94, 97, 45, 98])), (.lit (.str [45])), (.lit (.str [42])), (.frz (.dlit [[97]] [(.lit (.int 1))])), (.bin .mul (.lit (.str [97])) (.lit (.int 13)))])),
   .ret (.idx (.var 1) (.call "_law_pick" [(.var 0), (.bi "len" [(.var 1)])]))]
abbrev f__law_odd : List (String × CS) := [("Text", .kw ⟨0, [], [.d (.emp)]⟩), ("_law_pick", .pl 2)]
abbrev n__law_bent : List Str := ["_law_purse_here", "_law_lot", "_law_pick_here", "_law_at"]
def b__law_bent : List PT.St :=
  [.par [2, 3] [(.call "_law_pick" [(.var 0), (.lit (.int 6))]), (.call "_law_pick" [(.var 0), (.bin .add (.bi "len" [(.var 1)]) (.lit (.int 1)))])],
   .ite (.cmp .eq (.var 2) (.lit (.int 0)))
     [.ret (.bin .add (.bin .add (.sl (.var 1) [] [(.var 3)]) (.sl (.sl (.tup [(.lit (.str [125])), (.lit (.str [123])), (.lit (.str [93])), (.lit (.str [91]))]) [(.call "_law_pick" [(.var 0), (.lit (.int 4))])] []) [] [(.lit (.int 1))])) (.sl (.var 1) [(.var 3)] []))]
     [],
   .ite (.cmp .eq (.var 2) (.lit (.int 1)))
     [.ret (.bin .add (.sl (.var 1) [] [(.var 3)]) (.sl (.var 1) [(.bin .add (.var 3) (.lit (.int 1)))] []))]
     [],
   .ite (.cmp .eq (.var 2) (.lit (.int 2)))
     [.ret (.bin .add (.bin .add (.sl (.var 1) [] [(.var 3)]) (.sl (.var 1) [(.var 3)] [(.bin .add (.var 3) (.lit (.int 1)))])) (.sl (.var 1) [(.var 3)] []))]
     [],
   .ite (.cmp .eq (.var 2) (.lit (.int 3)))
     [.ret (.bin .add (.var 1) (.bin .mul (.tup [(.lit (.str [97]))]) (.bin .add (.bin .sub (.lit (.int 40)) (.bi "len" [(.sl (.var 1) [] [(.lit (.int 40))])])) (.call "_law_pick" [(.var 0), (.lit (.int 3))]))))]
     [],
   .ite (.cmp .eq (.var 2) (.lit (.int 4)))
     [.ret (.bin .add (.bin .add (.sl (.var 1) [] [(.var 3)]) (.tup [(.call "_law_odd" [(.var 0)])])) (.sl (.var 1) [(.var 3)] []))]
     [],
   .ret (.bin .add (.bin .add (.sl (.var 1) [] [(.var 3)]) (.tup [(.call "_law_odd" [(.var 0)])])) (.sl (.var 1) [(.bin .add (.var 3) (.lit (.int 1)))] []))]
abbrev f__law_bent : List (String × CS) := [("_law_pick", .pl 2), ("_law_odd", .pl 1)]
abbrev n_law : List Str := ["_law_script", "_law_fixed", "_law_k", "_law_purse_here", "_law_bends", "_law_upto", "_law_noted", "_law_marks", "_law_lot", "_law_turn", "_law_many", "_law_verse", "_law_part"]
def l_law_1 : List PT.St :=
  [.asg (.nm 8) (.call "_law_bent" [(.var 3), (.var 8)])]
def l_law_2 : List PT.St :=
  [.asg (.nm 3) (.call "_law_purse" [(.call "_law_cell" [(.var 0), (.var 2)])]),
   .par [4, 5, 6] [(.bin .add (.lit (.int 1)) (.call "_law_pick" [(.var 3), (.lit (.int 3))])), (.idx (.lst [(.lit (.int 5)), (.lit (.int 39))]) (.call "_law_pick" [(.var 3), (.lit (.int 2))])), (.call "_law_pick" [(.var 3), (.lit (.int 2))])],
   .asg (.nm 7) (.call "_law_names" [(.var 3), (.call "_law_pick" [(.var 3), (.lit (.int 4))])]),
   .asg (.nm 8) (.call "_law_tokens" [(.var 3), (.var 5), (.sl (.var 7) [] [(.lit (.int 1))]), (.var 7), (.lit (.bl false))]),
   .ite (.cmp .eq (.var 6) (.lit (.int 1)))
     [.asg (.nm 8) (.call "_law_with_note" [(.var 3), (.var 8), (.var 7)])]
     [],
   .ite (.or (.not (.call "_law_shown_right" [(.var 8)])) (.not (.call "_law_read_right" [(.me "join" (.lit (.str [32])) [(.var 8)])])))
     [.ret (.lit (.bl false))]
     [],
   .for_ (.nm 9) .range [(.var 4)] l_law_1,
   .ite (.or (.not (.call "_law_shown_right" [(.var 8)])) (.not (.call "_law_read_right" [(.me "join" (.lit (.str [32])) [(.comp (.var 12) (.nm 12) .val [(.var 8)] [(.bi "isinstance" [(.var 12), (.lit (.ty "str"))])] [12] false)])])))
     [.ret (.lit (.bl false))]
     []]
def b_law : List PT.St :=
  [.asg (.nm 1) (.lst [(.lit (.str [123])), (.lit (.str [125])), (.lit (.str [123, 32, 125])), (.lit (.str [123, 32, 97, 32, 93])), (.lit (.str [123, 32, 91, 32, 93, 32, 125])), (.lit (.str [91, 32, 97, 32, 125, 32, 98])), (.lit (.str [97, 32, 123, 32, 98])), (.lit (.str [123, 32, 97, 32, 125, 32, 91, 32, 98, 32, 93])), (.lit (.str [123, 32, 97, 32, 125, 32, 125]))]),
   .asg (.nm 1) (.bin .add (.var 1) (.lst [(.lit (.str [97, 10, 98])), (.lit (.str [32, 97, 32, 32, 98, 32])), (.lit (.str [64, 97, 32, 35, 98, 32, 126, 99, 32, 38, 100, 32, 94, 69])), (.lit (.str [64])), (.lit (.str [97, 45, 98]))])),
   .asg (.nm 1) (.bin .add (.var 1) (.comp (.me "join" (.lit (.str [32])) [(.bin .mul (.lst [(.lit (.str [97]))]) (.var 10))]) (.nm 10) .val [(.lst [(.lit (.int 39)), (.lit (.int 40)), (.lit (.int 41)), (.lit (.int 42))])] [] [10] false)),
   .asg (.nm 1) (.bin .add (.var 1) (.lst [(.me "join" (.lit (.str [32])) [(.bin .add (.bin .mul (.lst [(.lit (.str [97]))]) (.lit (.int 42))) (.lst [(.lit (.str [45]))]))]), (.me "join" (.lit (.str [32])) [(.bin .add (.lst [(.lit (.str [123]))]) (.bin .mul (.lst [(.lit (.str [97]))]) (.lit (.int 41))))])])),
   .ite (.or (.not (.bi "all" [(.comp (.call "_law_read_right" [(.var 11)]) (.nm 11) .val [(.var 1)] [] [11] false)])) (.not (.call "_law_kinds_right" [])))
     [.ret (.lit (.bl false))]
     [],
   .for_ (.nm 2) .range [(.bi "max" [(.lit (.int 2)), (.bi "min" [(.lit (.int 8)), (.bi "len" [(.var 0)])])])] l_law_2,
   .ret (.lit (.bl true))]
abbrev f_law : List (String × CS) := [("_law_read_right", .pl 1), ("_law_kinds_right", .pl 0), ("_law_cell", .pl 2), ("_law_purse", .pl 1), ("_law_pick", .pl 2), ("_law_names", .pl 2), ("_law_tokens", .pl 5), ("_law_with_note", .pl 3), ("_law_shown_right", .pl 1), ("_law_bent", .pl 2)]
/-! ### what the defs tell -/
def tokensW : List Nat := [116, 111, 107, 101, 110, 115]
def toldW : List Nat := [116, 111, 108, 100]
/-- the place that is refused: of tokens, of a text -/
def plc : D → Option D
  | .tup xs => (firstW xs).map fun k : Nat => D.int (k : Int)
  | _ => some .non
def plcW : D → Option D
  | .str s => plc (.tup ((wordsOf s).map .str))
  | _ => some .non
def txts : D → List (List Nat)
  | .tup xs => xs.filterMap fun d => match d with | .str s => some s | _ => none
  | _ => []
def wrds : D → List (List Nat)
  | .str s => wordsOf s
  | _ => []
def toldD (k : Nat) (d : D) : D := match (if k ≤ 1 then plc d else plcW d) with
  | some p => .tup [.str tokensW, p]
  | none => .tup [.str toldW, if k ≤ 1 then .str (TL.joinL [32] (txts d)) else .tup ((wrds d).map .str)]
def oddB (d : D) : Bool := typB d && (match d with | .str s => decide (s.length ≤ 20) | _ => true)
def pr_check_tokens : Prom := prG (fun (d : D) ds m => ds = [d] ∧ Tyi m d) (fun d _ m r m' => plc d = none ∧ r = .non ∧ m' = m) fun d _ m x m' => ∃ p, plc d = some p ∧ x = ⟨"NoTokens", [("place", p)]⟩ ∧ m' = m
def pr_show_tokens : Prom := prG (fun (d : D) ds m => ds = [d] ∧ Tyi m d) (fun d _ m r m' => plc d = none ∧ r = .str (TL.joinL [32] (txts d)) ∧ m' = m) fun d _ m x m' => ∃ p, plc d = some p ∧ x = ⟨"NoTokens", [("place", p)]⟩ ∧ m' = m
def pr_words_in : Prom := prG (fun (s : List Nat) ds m => ds = [.str s] ∧ s.length ≤ 100000) (fun s _ m r m' => r = .tup ((wordsOf s).map .str) ∧ m' = m) fun _ _ _ _ _ => False
def pr_read_tokens : Prom := prG (fun (d : D) ds m => ds = [d] ∧ Tyi m d ∧ ∀ s, d = .str s → s.length ≤ 100000) (fun d _ m r m' => plcW d = none ∧ r = .tup ((wrds d).map .str) ∧ m' = m) fun d _ m x m' => ∃ p, plcW d = some p ∧ x = ⟨"NoTokens", [("place", p)]⟩ ∧ m' = m
def pr_law_sort (a : Nat) : Prom := prG (fun (p : D) ds m => ds = [.exc a "NoTokens" ["place"] [p]]) (fun _ _ m r m' => r = .str tokensW ∧ m' = m) fun _ _ _ _ _ => False
def pr_law_told : Prom := prG (fun (g : Nat × D) ds m => ds = [.int g.1, g.2] ∧ g.1 ≤ 3 ∧ Tyi m g.2 ∧ ∀ s, g.2 = .str s → s.length ≤ 100000) (fun g _ m r m' => r = toldD g.1 g.2 ∧ m' = m) fun _ _ _ _ _ => False
def pr_law_read_right : Prom := prG (fun (s : List Nat) ds m => ds = [.str s] ∧ s.length ≤ 90000) (fun _ _ m r m' => r = .bl true ∧ m' = m) fun _ _ _ _ _ => False
def pr_law_shown_right : Prom := prG (fun (xs : List D) ds m => ds = [.tup xs] ∧ xs.length ≤ 100000 ∧ ∀ x ∈ xs, typB x = true) (fun _ _ m r m' => r = .bl true ∧ m' = m) fun _ _ _ _ _ => False
def pr_law_kinds_right : Prom := prG (fun (_ : Unit) ds m => ds = []) (fun _ _ m r m' => r = .bl true ∧ m' = m) fun _ _ _ _ _ => False
def pr_first_amiss : Prom := prG (fun (_ : Unit) ds m => ds = [.tup []]) (fun _ _ m r m' => r = .non ∧ m' = m) fun _ _ _ _ _ => False
def pr_Text___init__ : Prom := prG (fun (p : Nat) ds m => ds = [.ref p, .tup []] ∧ m p = some (.ins "Text" [])) (fun p _ m r m' => r = .non ∧ m' = m.set p (.ins "Text" [("rows", .tup [])])) fun _ _ _ _ _ => False
def pr_law_odd : Prom := prG (fun (a : Nat) ds m => ds = [.ref a] ∧ Pur m a) (fun a _ m r m' => oddB r = true ∧ Keep m a m') fun _ _ _ _ _ => False
def pr_law_bent : Prom := prG (fun (g : Nat × List D) ds m => ds = [.ref g.1, .tup g.2] ∧ Pur m g.1 ∧ (∀ x ∈ g.2, oddB x = true) ∧ g.2.length ≤ 900) (fun g _ m r m' => ∃ ys, r = .tup ys ∧ (∀ y ∈ ys, oddB y = true) ∧ ys.length ≤ g.2.length + 50 ∧ Keep m g.1 m') fun _ _ _ _ _ => False
def pr_law : Prom := prG (fun (ns : List Int) ds m => ds = [.scr (ns.map .int)] ∧ ns.length ≤ 63) (fun _ _ _ r m' => r = .bl true) fun _ _ _ _ _ => False
theorem law_ask (ns : List Int) (hl : ns.length ≤ 63) : pr_law [.scr (ns.map .int)] (fun _ => none) (fun d _ => d = .bl true) noX := ⟨ns, ⟨rfl, hl⟩, fun _ _ h => h, fun _ _ z => z.elim⟩
def gloC : List (String × D) := [("MOST_NAME", .int 8), ("SMALL", .str smallL), ("MOST_WORD", .int 12), ("SIGNS", .str signsL), ("BRACKETS", brT), ("MOST_TOKENS", .int 40), ("MOST_ROWS", .int 80)]
def dicC : List (String × List (List Nat × D)) := [("PAIRS", pairsT)]
def calC : List (String × Prom) := [("is_tokens", pr_is_tokens), ("_law_is_word", pr_is_word), ("_law_is_name", pr_is_name), ("_law_is_token", pr_is_token), ("_law_amiss", pr_l_amiss), ("is_name", pr_is_name), ("is_word", pr_is_word), ("is_token", pr_is_token), ("first_wrong", pr_first_wrong), ("check_tokens", pr_check_tokens), ("show_tokens", pr_show_tokens), ("words_in", pr_words_in), ("read_tokens", pr_read_tokens), ("_law_told", pr_law_told), ("_law_read_right", pr_law_read_right), ("first_amiss", pr_first_amiss), ("_law_kinds_right", pr_law_kinds_right), ("_law_cell", pr_law_cell), ("_law_purse", pr_law_purse), ("_law_pick", pr_law_pick), ("_law_names", pr_law_names), ("_law_one_word", pr_law_one_word), ("_law_tokens", pr_law_tokens), ("_law_with_note", pr_law_with_note), ("_law_shown_right", pr_law_shown_right), ("_law_odd", pr_law_odd), ("_law_bent", pr_law_bent), ("law", pr_law), ("Shape", newP "Shape" pr_Shape___init__), ("Text", newP "Text" pr_Text___init__), ("Shape.is_open", pr_Shape_is_open)]
def fldC : List (String × String) := [("Shape", "ruled"), ("Shape", "begun"), ("Shape", "whens"), ("Shape", "columns"), ("Shape", "lines"), ("Shape", "cover"), ("Text", "rows")]
def clsC : List String := []
def exnC : List (String × List String) := [("NoTokens", ["place"])]
def xfldC : List (String × String) := [("NoTokens", "place")]
def calHC (a : Nat) : List (String × Prom) := [("_law_sort", pr_law_sort a)]
def C : Cfg := { call := fun f => (calC.lookup f).getD noP, glob := fun x => gloC.lookup x, dic := fun x => dicC.lookup x, fld := fun t f => fldC.contains (t, f), cls := fun t => clsC.contains t, sub := subT subC, exn := fun f => exnC.lookup f, xfld := fun t f => xfldC.contains (t, f), callh := fun a f => ((calHC a).lookup f).getD noP }
theorem H__law_sort (a : Nat) : C.callh a "_law_sort" = pr_law_sort a := by simp [C, calHC, List.lookup]
theorem S_NoTokens_NoTokens : C.sub "NoTokens" "NoTokens" = some true := by rfl
theorem S_NoTokens_NoRows : C.sub "NoTokens" "NoRows" = some false := by rfl
theorem S_NoTokens_NoText : C.sub "NoTokens" "NoText" = some false := by rfl
theorem S_NoTokens_NoTexts : C.sub "NoTokens" "NoTexts" = some false := by rfl
theorem S_NoTokens_TongueError : C.sub "NoTokens" "TongueError" = some true := by rfl
theorem S_NoTokens_StandError : C.sub "NoTokens" "StandError" = some false := by rfl
theorem S_NoTokens_RoomError : C.sub "NoTokens" "RoomError" = some false := by rfl
theorem S_NoTokens_NoKind : C.sub "NoTokens" "NoKind" = some false := by rfl
theorem S_NoTokens_NoSize : C.sub "NoTokens" "NoSize" = some false := by rfl
theorem S_NoTokens_NoChanges : C.sub "NoTokens" "NoChanges" = some false := by rfl
theorem S_NoTokens_NoLine : C.sub "NoTokens" "NoLine" = some false := by rfl
theorem S_NoTokens_NoInclude : C.sub "NoTokens" "NoInclude" = some false := by rfl
theorem S_NoTokens_NoStyle : C.sub "NoTokens" "NoStyle" = some false := by rfl
theorem S_NoTokens_NoMark : C.sub "NoTokens" "NoMark" = some false := by rfl
theorem S_NoTokens_NoNumber : C.sub "NoTokens" "NoNumber" = some false := by rfl
theorem S_NoTokens_NoPlace : C.sub "NoTokens" "NoPlace" = some false := by rfl
theorem S_NoTokens_NoDocument : C.sub "NoTokens" "NoDocument" = some false := by rfl
theorem S_NoTokens_NoPrinting : C.sub "NoTokens" "NoPrinting" = some false := by rfl
theorem S_NoTokens_Ring : C.sub "NoTokens" "Ring" = some false := by rfl
theorem S_NoTokens_Twice : C.sub "NoTokens" "Twice" = some false := by rfl
theorem S_NoTokens_TooMany : C.sub "NoTokens" "TooMany" = some false := by rfl
theorem S_NoTokens_TooTall : C.sub "NoTokens" "TooTall" = some false := by rfl
theorem S_NoTokens_Clash : C.sub "NoTokens" "Clash" = some false := by rfl
theorem S_NoTokens_ValueError : C.sub "NoTokens" "ValueError" = some true := by rfl
theorem S_NoTokens_LookupError : C.sub "NoTokens" "LookupError" = some false := by rfl
theorem S_NoTokens_ArithmeticError : C.sub "NoTokens" "ArithmeticError" = some false := by rfl
theorem X_NoTokens : C.exn "NoTokens" = some ["place"] := by rfl
theorem XF_NoTokens_place : C.xfld "NoTokens" "place" = true := by rfl
theorem C_is_tokens : C.call "is_tokens" = pr_is_tokens := by simp [C, calC, List.lookup]
theorem C__law_is_word : C.call "_law_is_word" = pr_is_word := by simp [C, calC, List.lookup]
theorem C__law_is_name : C.call "_law_is_name" = pr_is_name := by simp [C, calC, List.lookup]
theorem C__law_is_token : C.call "_law_is_token" = pr_is_token := by simp [C, calC, List.lookup]
theorem C__law_amiss : C.call "_law_amiss" = pr_l_amiss := by simp [C, calC, List.lookup]
theorem C_is_name : C.call "is_name" = pr_is_name := by simp [C, calC, List.lookup]
theorem C_is_word : C.call "is_word" = pr_is_word := by simp [C, calC, List.lookup]
theorem C_is_token : C.call "is_token" = pr_is_token := by simp [C, calC, List.lookup]
theorem C_first_wrong : C.call "first_wrong" = pr_first_wrong := by simp [C, calC, List.lookup]
theorem C_check_tokens : C.call "check_tokens" = pr_check_tokens := by simp [C, calC, List.lookup]
theorem C_show_tokens : C.call "show_tokens" = pr_show_tokens := by simp [C, calC, List.lookup]
theorem C_words_in : C.call "words_in" = pr_words_in := by simp [C, calC, List.lookup]
theorem C_read_tokens : C.call "read_tokens" = pr_read_tokens := by simp [C, calC, List.lookup]
theorem C__law_told : C.call "_law_told" = pr_law_told := by simp [C, calC, List.lookup]
theorem C__law_read_right : C.call "_law_read_right" = pr_law_read_right := by simp [C, calC, List.lookup]
theorem C_first_amiss : C.call "first_amiss" = pr_first_amiss := by simp [C, calC, List.lookup]
theorem C__law_kinds_right : C.call "_law_kinds_right" = pr_law_kinds_right := by simp [C, calC, List.lookup]
theorem C__law_cell : C.call "_law_cell" = pr_law_cell := by simp [C, calC, List.lookup]
theorem C__law_purse : C.call "_law_purse" = pr_law_purse := by simp [C, calC, List.lookup]
theorem C__law_pick : C.call "_law_pick" = pr_law_pick := by simp [C, calC, List.lookup]
theorem C__law_names : C.call "_law_names" = pr_law_names := by simp [C, calC, List.lookup]
theorem C__law_one_word : C.call "_law_one_word" = pr_law_one_word := by simp [C, calC, List.lookup]
theorem C__law_tokens : C.call "_law_tokens" = pr_law_tokens := by simp [C, calC, List.lookup]
theorem C__law_with_note : C.call "_law_with_note" = pr_law_with_note := by simp [C, calC, List.lookup]
theorem C__law_shown_right : C.call "_law_shown_right" = pr_law_shown_right := by simp [C, calC, List.lookup]
theorem C__law_odd : C.call "_law_odd" = pr_law_odd := by simp [C, calC, List.lookup]
theorem C__law_bent : C.call "_law_bent" = pr_law_bent := by simp [C, calC, List.lookup]
theorem C_law : C.call "law" = pr_law := by simp [C, calC, List.lookup]
theorem C_Shape : C.call "Shape" = newP "Shape" pr_Shape___init__ := by simp [C, calC, List.lookup]
theorem C_Text : C.call "Text" = newP "Text" pr_Text___init__ := by simp [C, calC, List.lookup]
theorem C_Shape_is_open : C.call "Shape.is_open" = pr_Shape_is_open := by simp [C, calC, List.lookup]
theorem G_MOST_NAME : C.glob "MOST_NAME" = some (.int 8) := by simp [C, gloC, List.lookup]
theorem G_SMALL : C.glob "SMALL" = some (.str smallL) := by simp [C, gloC, List.lookup]
theorem G_MOST_WORD : C.glob "MOST_WORD" = some (.int 12) := by simp [C, gloC, List.lookup]
theorem G_SIGNS : C.glob "SIGNS" = some (.str signsL) := by simp [C, gloC, List.lookup]
theorem G_BRACKETS : C.glob "BRACKETS" = some (brT) := by simp [C, gloC, List.lookup]
theorem G_MOST_TOKENS : C.glob "MOST_TOKENS" = some (.int 40) := by simp [C, gloC, List.lookup]
theorem G_MOST_ROWS : C.glob "MOST_ROWS" = some (.int 80) := by simp [C, gloC, List.lookup]
theorem D_PAIRS : C.dic "PAIRS" = some pairsT := by simp [C, dicC, List.lookup]
theorem F_Shape_ruled : C.fld "Shape" "ruled" = true := by simp [C, fldC]
theorem F_Shape_begun : C.fld "Shape" "begun" = true := by simp [C, fldC]
theorem F_Shape_whens : C.fld "Shape" "whens" = true := by simp [C, fldC]
theorem F_Shape_columns : C.fld "Shape" "columns" = true := by simp [C, fldC]
theorem F_Shape_lines : C.fld "Shape" "lines" = true := by simp [C, fldC]
theorem F_Shape_cover : C.fld "Shape" "cover" = true := by simp [C, fldC]
theorem F_Text_rows : C.fld "Text" "rows" = true := by simp [C, fldC]
theorem C_mono : C.Mono := by
  refine ⟨fun f => tab_mono (fun p hp => ?_) f, fun a f => tab_mono (fun p hp => ?_) f⟩
  · simp only [calC, List.mem_cons, List.not_mem_nil, or_false] at hp
    rcases hp with rfl | rfl | rfl | rfl | rfl | rfl | rfl | rfl | rfl | rfl | rfl | rfl | rfl | rfl | rfl | rfl | rfl | rfl | rfl | rfl | rfl | rfl | rfl | rfl | rfl | rfl | rfl | rfl | rfl | rfl | rfl <;> first | exact prG_mono _ _ _ | exact newP_mono (prG_mono _ _ _)
  · simp only [calHC, List.mem_cons, List.not_mem_nil, or_false] at hp
    rcases hp with rfl <;> exact prG_mono _ _ _
theorem tokC : TokC C := ⟨C_mono, C_is_name, C_is_word, C_is_token, C_first_wrong, C_is_tokens, G_SMALL, G_SIGNS, G_MOST_NAME, G_MOST_WORD, G_MOST_TOKENS, G_BRACKETS, D_PAIRS⟩
theorem genC : GenC C := ⟨C_mono, C__law_cell, C__law_purse, C__law_pick, C__law_one_word, C__law_names, C__law_tokens, C__law_with_note⟩
theorem ltkC : LtkC C := ⟨C_mono, C__law_is_name, C__law_is_word, C__law_is_token, C__law_amiss⟩
theorem sc_NoTokens___init__ : FnScope ["self", "place"] ["self", "place"] (defScope s_NoTokens___init__) := ⟨rfl, rfl, rfl, by decide +kernel, rfl, by decide +kernel, by decide +kernel⟩
theorem ck__law_is_word : ckSs C.ks n__law_is_word (defScope s__law_is_word) f__law_is_word b__law_is_word (defBody s__law_is_word) = true := by decide +kernel
theorem sc__law_is_word : FnScope n__law_is_word ["_law_matter"] (defScope s__law_is_word) := ⟨rfl, rfl, rfl, by decide +kernel, rfl, by decide +kernel, by decide +kernel⟩
theorem ck__law_is_name : ckSs C.ks n__law_is_name (defScope s__law_is_name) f__law_is_name b__law_is_name (defBody s__law_is_name) = true := by decide +kernel
theorem sc__law_is_name : FnScope n__law_is_name ["_law_matter"] (defScope s__law_is_name) := ⟨rfl, rfl, rfl, by decide +kernel, rfl, by decide +kernel, by decide +kernel⟩
theorem ck__law_is_token : ckSs C.ks n__law_is_token (defScope s__law_is_token) f__law_is_token b__law_is_token (defBody s__law_is_token) = true := by decide +kernel
theorem sc__law_is_token : FnScope n__law_is_token ["_law_matter"] (defScope s__law_is_token) := ⟨rfl, rfl, rfl, by decide +kernel, rfl, by decide +kernel, by decide +kernel⟩
theorem ck__law_amiss : ckSs C.ks n__law_amiss (defScope s__law_amiss) f__law_amiss b__law_amiss (defBody s__law_amiss) = true := by decide +kernel
theorem sc__law_amiss : FnScope n__law_amiss ["_law_some"] (defScope s__law_amiss) := ⟨rfl, rfl, rfl, by decide +kernel, rfl, by decide +kernel, by decide +kernel⟩
theorem ck_is_name : ckSs C.ks n_is_name (defScope s_is_name) f_is_name b_is_name (defBody s_is_name) = true := by decide +kernel
theorem sc_is_name : FnScope n_is_name ["thing"] (defScope s_is_name) := ⟨rfl, rfl, rfl, by decide +kernel, rfl, by decide +kernel, by decide +kernel⟩
theorem ck_is_word : ckSs C.ks n_is_word (defScope s_is_word) f_is_word b_is_word (defBody s_is_word) = true := by decide +kernel
theorem sc_is_word : FnScope n_is_word ["thing"] (defScope s_is_word) := ⟨rfl, rfl, rfl, by decide +kernel, rfl, by decide +kernel, by decide +kernel⟩
theorem ck_is_token : ckSs C.ks n_is_token (defScope s_is_token) f_is_token b_is_token (defBody s_is_token) = true := by decide +kernel
theorem sc_is_token : FnScope n_is_token ["thing"] (defScope s_is_token) := ⟨rfl, rfl, rfl, by decide +kernel, rfl, by decide +kernel, by decide +kernel⟩
theorem ck_first_wrong : ckSs C.ks n_first_wrong (defScope s_first_wrong) f_first_wrong b_first_wrong (defBody s_first_wrong) = true := by decide +kernel
theorem sc_first_wrong : FnScope n_first_wrong ["things"] (defScope s_first_wrong) := ⟨rfl, rfl, rfl, by decide +kernel, rfl, by decide +kernel, by decide +kernel⟩
theorem ck_check_tokens : ckSs C.ks n_check_tokens (defScope s_check_tokens) f_check_tokens b_check_tokens (defBody s_check_tokens) = true := by decide +kernel
theorem sc_check_tokens : FnScope n_check_tokens ["thing"] (defScope s_check_tokens) := ⟨rfl, rfl, rfl, by decide +kernel, rfl, by decide +kernel, by decide +kernel⟩
theorem ck_show_tokens : ckSs C.ks n_show_tokens (defScope s_show_tokens) f_show_tokens b_show_tokens (defBody s_show_tokens) = true := by decide +kernel
theorem sc_show_tokens : FnScope n_show_tokens ["tokens"] (defScope s_show_tokens) := ⟨rfl, rfl, rfl, by decide +kernel, rfl, by decide +kernel, by decide +kernel⟩
theorem ck_words_in : ckSs C.ks n_words_in (defScope s_words_in) f_words_in b_words_in (defBody s_words_in) = true := by decide +kernel
theorem sc_words_in : FnScope n_words_in ["text"] (defScope s_words_in) := ⟨rfl, rfl, rfl, by decide +kernel, rfl, by decide +kernel, by decide +kernel⟩
theorem ck_read_tokens : ckSs C.ks n_read_tokens (defScope s_read_tokens) f_read_tokens b_read_tokens (defBody s_read_tokens) = true := by decide +kernel
theorem sc_read_tokens : FnScope n_read_tokens ["text"] (defScope s_read_tokens) := ⟨rfl, rfl, rfl, by decide +kernel, rfl, by decide +kernel, by decide +kernel⟩
theorem ck__law_sort : ckSs C.ks n__law_sort (defScope s__law_sort) (heatF f__law_sort) b__law_sort (defBody s__law_sort) = true := by decide +kernel
theorem sc__law_sort : FnScope n__law_sort ["_law_e"] (defScope s__law_sort) := ⟨rfl, rfl, rfl, by decide +kernel, rfl, by decide +kernel, by decide +kernel⟩
theorem ck__law_told : ckSs C.ks n__law_told (defScope s__law_told) f__law_told b__law_told (defBody s__law_told) = true := by decide +kernel
theorem sc__law_told : FnScope n__law_told ["_law_style", "_law_matter"] (defScope s__law_told) := ⟨rfl, rfl, rfl, by decide +kernel, rfl, by decide +kernel, by decide +kernel⟩
theorem ck__law_read_right : ckSs C.ks n__law_read_right (defScope s__law_read_right) f__law_read_right b__law_read_right (defBody s__law_read_right) = true := by decide +kernel
theorem sc__law_read_right : FnScope n__law_read_right ["_law_verse"] (defScope s__law_read_right) := ⟨rfl, rfl, rfl, by decide +kernel, rfl, by decide +kernel, by decide +kernel⟩
theorem ck_Shape___init__ : ckSs C.ks n_Shape___init__ (defScope s_Shape___init__) f_Shape___init__ b_Shape___init__ (defBody s_Shape___init__) = true := by decide +kernel
theorem sc_Shape___init__ : FnScope n_Shape___init__ ["self"] (defScope s_Shape___init__) := ⟨rfl, rfl, rfl, by decide +kernel, rfl, by decide +kernel, by decide +kernel⟩
theorem ck_Shape_is_open : ckSs C.ks n_Shape_is_open (defScope s_Shape_is_open) f_Shape_is_open b_Shape_is_open (defBody s_Shape_is_open) = true := by decide +kernel
theorem sc_Shape_is_open : FnScope n_Shape_is_open ["self"] (defScope s_Shape_is_open) := ⟨rfl, rfl, rfl, by decide +kernel, rfl, by decide +kernel, by decide +kernel⟩
theorem ck_first_amiss : ckSs C.ks n_first_amiss (defScope s_first_amiss) f_first_amiss b_first_amiss (defBody s_first_amiss) = true := by decide +kernel
theorem sc_first_amiss : FnScope n_first_amiss ["rows"] (defScope s_first_amiss) := ⟨rfl, rfl, rfl, by decide +kernel, rfl, by decide +kernel, by decide +kernel⟩
theorem ck_Text___init__ : ckSs C.ks n_Text___init__ (defScope s_Text___init__) f_Text___init__ b_Text___init__ (defBody s_Text___init__) = true := by decide +kernel
theorem sc_Text___init__ : FnScope n_Text___init__ ["self", "rows"] (defScope s_Text___init__) := ⟨rfl, rfl, rfl, by decide +kernel, rfl, by decide +kernel, by decide +kernel⟩
theorem ck__law_kinds_right : ckSs C.ks n__law_kinds_right (defScope s__law_kinds_right) f__law_kinds_right b__law_kinds_right (defBody s__law_kinds_right) = true := by decide +kernel
theorem sc__law_kinds_right : FnScope n__law_kinds_right [] (defScope s__law_kinds_right) := ⟨rfl, rfl, rfl, by decide +kernel, rfl, by decide +kernel, by decide +kernel⟩
theorem ck__law_cell : ckSs C.ks n__law_cell (defScope s__law_cell) f__law_cell b__law_cell (defBody s__law_cell) = true := by decide +kernel
theorem sc__law_cell : FnScope n__law_cell ["_law_script", "_law_k"] (defScope s__law_cell) := ⟨rfl, rfl, rfl, by decide +kernel, rfl, by decide +kernel, by decide +kernel⟩
theorem ck__law_purse : ckSs C.ks n__law_purse (defScope s__law_purse) f__law_purse b__law_purse (defBody s__law_purse) = true := by decide +kernel
theorem sc__law_purse : FnScope n__law_purse ["_law_cell_here"] (defScope s__law_purse) := ⟨rfl, rfl, rfl, by decide +kernel, rfl, by decide +kernel, by decide +kernel⟩
theorem ck__law_pick : ckSs C.ks n__law_pick (defScope s__law_pick) f__law_pick b__law_pick (defBody s__law_pick) = true := by decide +kernel
theorem sc__law_pick : FnScope n__law_pick ["_law_purse_here", "_law_many"] (defScope s__law_pick) := ⟨rfl, rfl, rfl, by decide +kernel, rfl, by decide +kernel, by decide +kernel⟩
theorem ck__law_names : ckSs C.ks n__law_names (defScope s__law_names) f__law_names b__law_names (defBody s__law_names) = true := by decide +kernel
theorem sc__law_names : FnScope n__law_names ["_law_purse_here", "_law_size"] (defScope s__law_names) := ⟨rfl, rfl, rfl, by decide +kernel, rfl, by decide +kernel, by decide +kernel⟩
theorem ck__law_one_word : ckSs C.ks n__law_one_word (defScope s__law_one_word) f__law_one_word b__law_one_word (defBody s__law_one_word) = true := by decide +kernel
theorem sc__law_one_word : FnScope n__law_one_word ["_law_purse_here"] (defScope s__law_one_word) := ⟨rfl, rfl, rfl, by decide +kernel, rfl, by decide +kernel, by decide +kernel⟩
theorem ck__law_tokens : ckSs C.ks n__law_tokens (defScope s__law_tokens) f__law_tokens b__law_tokens (defBody s__law_tokens) = true := by decide +kernel
theorem sc__law_tokens : FnScope n__law_tokens ["_law_purse_here", "_law_upto", "_law_marks", "_law_refs", "_law_bare"] (defScope s__law_tokens) := ⟨rfl, rfl, rfl, by decide +kernel, rfl, by decide +kernel, by decide +kernel⟩
theorem ck__law_with_note : ckSs C.ks n__law_with_note (defScope s__law_with_note) f__law_with_note b__law_with_note (defBody s__law_with_note) = true := by decide +kernel
theorem sc__law_with_note : FnScope n__law_with_note ["_law_purse_here", "_law_tokens_here", "_law_refs"] (defScope s__law_with_note) := ⟨rfl, rfl, rfl, by decide +kernel, rfl, by decide +kernel, by decide +kernel⟩
theorem ck__law_shown_right : ckSs C.ks n__law_shown_right (defScope s__law_shown_right) f__law_shown_right b__law_shown_right (defBody s__law_shown_right) = true := by decide +kernel
theorem sc__law_shown_right : FnScope n__law_shown_right ["_law_lot"] (defScope s__law_shown_right) := ⟨rfl, rfl, rfl, by decide +kernel, rfl, by decide +kernel, by decide +kernel⟩
theorem ck__law_odd : ckSs C.ks n__law_odd (defScope s__law_odd) f__law_odd b__law_odd (defBody s__law_odd) = true := by decide +kernel
theorem sc__law_odd : FnScope n__law_odd ["_law_purse_here"] (defScope s__law_odd) := ⟨rfl, rfl, rfl, by decide +kernel, rfl, by decide +kernel, by decide +kernel⟩
theorem ck__law_bent : ckSs C.ks n__law_bent (defScope s__law_bent) f__law_bent b__law_bent (defBody s__law_bent) = true := by decide +kernel
theorem sc__law_bent : FnScope n__law_bent ["_law_purse_here", "_law_lot"] (defScope s__law_bent) := ⟨rfl, rfl, rfl, by decide +kernel, rfl, by decide +kernel, by decide +kernel⟩
theorem ck_law : ckSs C.ks n_law (defScope s_law) f_law b_law (defBody s_law) = true := by decide +kernel
theorem sc_law : FnScope n_law ["_law_script"] (defScope s_law) := ⟨rfl, rfl, rfl, by decide +kernel, rfl, by decide +kernel, by decide +kernel⟩
theorem shpF : ShpF C := ⟨C_mono, F_Shape_ruled, F_Shape_begun, F_Shape_whens, F_Shape_columns, F_Shape_lines, F_Shape_cover⟩
end k03
end PT
end
section
set_option linter.all false
set_option maxRecDepth 100000
set_option maxHeartbeats 4000000
namespace PT
namespace k03
open PySem PySem.Spec PyProof.Rows L2 Lb

theorem w_first_amiss : WOk C 4 b_first_amiss pr_first_amiss := by
  rintro ds m Q E ⟨_, rfl, h, _⟩
  replace h := h _ _ ⟨rfl, rfl⟩
  unfold b_first_amiss
  simp [bodyW, startE, wpSs, wpS, wpB, wpE, wpEs, wpTs, wpP, bifD, truD_bl, truD_int, truD_str, truD_non, truD_tup, truD_lst, getw_ite, lenF, lenD_str, lenD_tup, lenD_lst, lenD_scr, cmpD, ordD, itD_tup, itD_lst, itD_scr, itD_str, itD_enT, itD_enL, tgD, tgDs, wipes, muQ, C_Shape]
  refine use_Shape fun p m' hp hs => ?_
  simp only [enumD, forW, gOk_none, true_and]
  obtain ⟨a, b, h1, h2, h3, h4, h5, h6, h7, h8, h9, h10⟩ := id hs
  simp [bodyW, startE, wpSs, wpS, wpB, wpE, wpEs, wpTs, wpP, bifD, truD_bl, truD_int, truD_str, truD_non, truD_tup, truD_lst, getw_ite, lenF, lenD_str, lenD_tup, lenD_lst, lenD_scr, cmpD, ordD, itD_tup, itD_lst, itD_scr, itD_str, itD_enT, itD_enL, tgD, tgDs, wipes, muQ, h8, Sh.o, fldD, List.lookup, C_Shape_is_open, tyD]
  refine use_is_open hs ?_
  simp [truD_bl]
  exact ⟨m, h7, h⟩
theorem w_Text___init__ : WOk C 3 b_Text___init__ pr_Text___init__ := wok C_mono <| by
  rintro ds m Q E ⟨p, ⟨rfl, hp⟩, h, _⟩
  replace h := h _ _ ⟨rfl, rfl⟩
  unfold b_Text___init__
  simp [bodyW, startE, wpSs, wpS, wpB, wpE, wpEs, wpTs, wpP, bifD, truD_bl, truD_int, truD_str, truD_non, truD_tup, truD_lst, getw_ite, lenF, lenD_str, lenD_tup, lenD_lst, lenD_scr, cmpD, ordD, itD_tup, itD_lst, itD_scr, itD_str, itD_enT, itD_enL, tgD, tgDs, wipes, muQ, isi_tup, G_MOST_ROWS, C_first_amiss]
  refine ⟨(), rfl, fun d m' ⟨e1, e2⟩ => ?_, fun _ _ z => z.elim⟩
  subst e1 e2
  simp [bodyW, startE, wpSs, wpS, wpB, wpE, wpEs, wpTs, wpP, bifD, truD_bl, truD_int, truD_str, truD_non, truD_tup, truD_lst, getw_ite, lenF, lenD_str, lenD_tup, lenD_lst, lenD_scr, cmpD, ordD, itD_tup, itD_lst, itD_scr, itD_str, itD_enT, itD_enL, tgD, tgDs, wipes, muQ, isD, isN, tyD, hp, F_Text_rows, setFD, putFD]
  exact h
theorem w_words_in : WOk C 2 b_words_in pr_words_in := wok C_mono <| by
  rintro ds m Q E ⟨s, ⟨rfl, hl⟩, h, _⟩
  replace h := h _ _ ⟨rfl, rfl⟩
  have sl : sizeLine = 16777216 := sizeLine_eq
  unfold b_words_in
  simp [bodyW, startE, wpSs, wpS, wpB, wpE, wpEs, wpTs, wpP, bifD, truD_bl, truD_int, truD_str, truD_non, truD_tup, truD_lst, getw_ite, lenF, lenD_str, lenD_tup, lenD_lst, lenD_scr, cmpD, ordD, itD_tup, itD_lst, itD_scr, itD_str, itD_enT, itD_enL, tgD, tgDs, wipes, muQ, meT, tyD, metD, splitM, sl]
  refine ⟨by omega, ?_⟩
  refine comp_pure (fun d => match d with | .str w => if w = [] then none else some (.str w) | _ => none) ?_ ?_
  · intro d hd K hK
    obtain ⟨w, _, rfl⟩ := List.mem_map.mp hd
    simp only [eqD, res, D.data, D.dep, D.eqv, Bool.and_self, Nat.zero_le, decide_true, if_true, Option.map_some, getw_some, truD_bl]
    by_cases e : w = []
    · subst e; simpa using hK
    · have e2 : (w == ([] : List Nat)) = false := beq_eq_false_iff_ne.mpr e
      simp only [e, if_false] at hK
      simpa [e2] using hK
  · have e : (List.map D.str (splitB 32 [] s)).filterMap (fun d => match d with | .str w => if w = [] then none else some (D.str w) | _ => none) = (wordsOf s).map D.str := by
      unfold wordsOf
      induction splitB 32 [] s with
      | nil => rfl
      | cons w r ih =>
        rw [List.map_cons, List.filterMap_cons, List.filter_cons]
        by_cases e : w = []
        · simp [e, ih]
        · simp [e, ih]
    rw [e, List.nil_append]
    simpa [muQ, tupF, seqOf, lstOf] using h
theorem w_check_tokens : WOk C 2 b_check_tokens pr_check_tokens := wok C_mono <| by
  rintro ds m Q E ⟨d, ⟨rfl, ht⟩, h, hx⟩
  unfold b_check_tokens
  simp [bodyW, startE, wpSs, wpS, wpB, wpE, wpEs, wpTs, wpP, bifD, truD_bl, truD_int, truD_str, truD_non, truD_tup, truD_lst, getw_ite, lenF, lenD_str, lenD_tup, lenD_lst, lenD_scr, cmpD, ordD, itD_tup, itD_lst, itD_scr, itD_str, itD_enT, itD_enL, tgD, tgDs, wipes, muQ, isi_tupD ht.1, C_first_wrong, X_NoTokens]
  cases d with
  | tup xs =>
    simp only [isTupB, if_true]
    try simp
    refine use_first_wrong (ht.2 xs rfl) ?_
    simp only [opt_isn', getw_some, truD_bl]
    cases e : firstW xs with
    | none =>
      simp
      exact h _ _ ⟨by simp [plc, e], rfl, rfl⟩
    | some k =>
      simp
      exact hx _ _ ⟨.int k, by simp [plc, e], by simp [optD], rfl⟩
  | _ =>
    simp [isTupB]
    exact hx _ _ ⟨.non, rfl, rfl, rfl⟩
theorem use_check {d : D} {m : MH} {Q : QD} {E : QX} (ht : Tyi m d) (h : plc d = none → Q .non m) (hx : ∀ p, plc d = some p → E ⟨"NoTokens", [("place", p)]⟩ m) : pr_check_tokens [d] m Q E :=
  ⟨d, ⟨rfl, ht⟩, fun _ _ ⟨e1, e2, e3⟩ => by rw [e2, e3]; exact h e1, fun _ _ ⟨p, e1, e2, e3⟩ => by rw [e2, e3]; exact hx p e1⟩
theorem plc_none {d : D} (h : plc d = none) : ∃ ws : List (List Nat), d = .tup (ws.map .str) ∧ (∀ w ∈ ws, tokS w = true) ∧ ws.length ≤ 40 ∧ txts d = ws := by
  cases d with
  | tup xs =>
    have e : firstW xs = none := by
      have h : (firstW xs).map (fun k : Nat => D.int (k : Int)) = none := h
      simpa using h
    have hs := firstW_strs e
    have hl : xs.length ≤ 40 := by
      unfold firstW at e
      split at e
      · cases e
      · split at e
        · cases e
        · rename_i hc; omega
    have key : ∀ ys : List D, (∀ w ∈ ys, ∃ s, w = .str s ∧ tokS s = true) → ∃ ws : List (List Nat), ys = ws.map .str ∧ (∀ w ∈ ws, tokS w = true) ∧ (ys.filterMap fun d => match d with | .str s => some s | _ => none) = ws := by
      intro ys
      induction ys with
      | nil => exact fun _ => ⟨[], rfl, (fun _ z => nomatch z), rfl⟩
      | cons y ys ih =>
        intro hy
        obtain ⟨s, rfl, hs⟩ := hy y (by simp)
        obtain ⟨ws, e1, e2, e3⟩ := ih fun w hw => hy w (List.mem_cons_of_mem _ hw)
        refine ⟨s :: ws, by rw [e1]; rfl, fun w hw => (List.mem_cons.mp hw).elim (fun z => by rw [z]; exact hs) (e2 w), ?_⟩
        rw [List.filterMap_cons]
        simp [e3]
    obtain ⟨ws, e1, e2, e3⟩ := key xs hs
    exact ⟨ws, by rw [e1], e2, by rw [e1, List.length_map] at hl; exact hl, e3⟩
  | _ => cases h
theorem tok_len {w : List Nat} (h : tokS w = true) : w.length ≤ 13 := by
  cases w with
  | nil => cases h
  | cons c r =>
    rw [tokS] at h
    split at h
    · simp only [nameB, Bool.and_eq_true, decide_eq_true_eq] at h
      rw [List.length_cons]; omega
    · split at h
      · simp only [wordB, Bool.and_eq_true, decide_eq_true_eq] at h
        rw [List.length_cons]; omega
      · rw [Bool.or_eq_true] at h
        rcases h with h | h
        · unfold isBr at h
          simp only [Bool.or_eq_true, beq_iff_eq] at h
          rcases h with ((h | h) | h) | h <;> (rw [h]; decide)
        · simp only [wordB, Bool.and_eq_true, decide_eq_true_eq] at h
          omega
theorem join_ok {m : MH} {ws : List (List Nat)} (h : ∀ w ∈ ws, w.length ≤ 30) (hl : ws.length ≤ 2000) : joinM m (.str [32]) [.tup (ws.map .str)] = some (.str (TL.joinL [32] ws)) := by
  have s1 := joinL_len2 30 ws h
  simp only [joinM, seqOf, Option.bind_some, strsOf_map, List.length_singleton]
  rw [if_pos (by omega)]
theorem w_show_tokens : WOk C 1 b_show_tokens pr_show_tokens := wok C_mono <| by
  rintro ds m Q E ⟨d, ⟨rfl, ht⟩, h, hx⟩
  unfold b_show_tokens
  simp [bodyW, startE, wpSs, wpS, wpB, wpE, wpEs, wpTs, wpP, bifD, truD_bl, truD_int, truD_str, truD_non, truD_tup, truD_lst, getw_ite, lenF, lenD_str, lenD_tup, lenD_lst, lenD_scr, cmpD, ordD, itD_tup, itD_lst, itD_scr, itD_str, itD_enT, itD_enL, tgD, tgDs, wipes, muQ, C_check_tokens, meT, tyD, metD]
  refine use_check ht (fun e => ?_) fun p e => hx _ _ ⟨p, e, rfl, rfl⟩
  obtain ⟨ws, rfl, hw, hl, et⟩ := plc_none e
  have jo := join_ok (m := m) (fun w hh => Nat.le_trans (tok_len (hw w hh)) (by decide)) (show ws.length ≤ 2000 by omega)
  simp only [jo, Option.map_some, getw_some]
  exact h _ _ ⟨e, by rw [et], rfl⟩
theorem tyi_strs {m : MH} (ws : List (List Nat)) : Tyi m (.tup (ws.map .str)) := ⟨rfl, fun xs e x hx => by
  cases e
  obtain ⟨w, _, rfl⟩ := List.mem_map.mp hx
  rfl⟩
theorem w_read_tokens : WOk C 2 b_read_tokens pr_read_tokens := wok C_mono <| by
  rintro ds m Q E ⟨d, ⟨rfl, ht, hl⟩, h, hx⟩
  unfold b_read_tokens
  simp [bodyW, startE, wpSs, wpS, wpB, wpE, wpEs, wpTs, wpP, bifD, truD_bl, truD_int, truD_str, truD_non, truD_tup, truD_lst, getw_ite, lenF, lenD_str, lenD_tup, lenD_lst, lenD_scr, cmpD, ordD, itD_tup, itD_lst, itD_scr, itD_str, itD_enT, itD_enL, tgD, tgDs, wipes, muQ, isi_str ht.1, C_words_in, C_check_tokens, X_NoTokens]
  cases d with
  | str s =>
    simp only [strB', if_true]
    try simp
    refine ⟨s, ⟨rfl, hl s rfl⟩, fun d m' ⟨e1, e2⟩ => ?_, fun _ _ z => z.elim⟩
    subst e1 e2
    try simp
    refine use_check (tyi_strs _) (fun e => ?_) fun p e => hx _ _ ⟨p, e, rfl, rfl⟩
    exact h _ _ ⟨e, rfl, rfl⟩
  | _ =>
    simp [strB']
    exact hx _ _ ⟨.non, rfl, rfl, rfl⟩
end k03
end PT
end
section
set_option linter.all false
set_option maxRecDepth 100000
set_option maxHeartbeats 4000000
namespace PT
namespace k03
open PySem PySem.Spec PyProof.Rows L2 Lb

theorem heat_sub (a : Nat) : (C.heat a).sub = C.sub := rfl
theorem heat_hot (a : Nat) : (C.heat a).hot = some a := rfl
theorem heat_call (a : Nat) (f : String) : (C.heat a).call f = C.callh a f := rfl
theorem heat_xfld (a : Nat) : (C.heat a).xfld = C.xfld := rfl
theorem C_heat_mono (a : Nat) : (C.heat a).Mono := C_mono.heat a
theorem w_law_sort (a : Nat) : WOk (C.heat a) 7 b__law_sort (pr_law_sort a) := wok (C_heat_mono a) <| by
  rintro ds m Q E ⟨p, rfl, h, _⟩
  replace h := h _ _ ⟨rfl, rfl⟩
  unfold b__law_sort
  simp [bodyW, startE, wpSs, wpS, wpB, wpE, wpEs, wpTs, wpP, bifD, truD_bl, truD_int, truD_str, truD_non, truD_tup, truD_lst, getw_ite, lenF, lenD_str, lenD_tup, lenD_lst, lenD_scr, cmpD, ordD, itD_tup, itD_lst, itD_scr, itD_str, itD_enT, itD_enL, tgD, tgDs, wipes, muQ, heat_sub, heat_hot, binD, addD, sizeLine_eq, meT, tyD, S_NoTokens_NoTokens, S_NoTokens_NoRows, S_NoTokens_NoText, S_NoTokens_NoTexts, S_NoTokens_NoKind, S_NoTokens_NoSize, S_NoTokens_NoChanges, S_NoTokens_NoLine, S_NoTokens_NoInclude, S_NoTokens_NoStyle, S_NoTokens_NoMark, S_NoTokens_NoNumber, S_NoTokens_NoPlace, S_NoTokens_NoDocument, S_NoTokens_NoPrinting, S_NoTokens_Ring, S_NoTokens_Twice, S_NoTokens_TooMany, S_NoTokens_TooTall, S_NoTokens_Clash, S_NoTokens_TongueError, S_NoTokens_StandError, S_NoTokens_RoomError, S_NoTokens_ValueError, S_NoTokens_LookupError, S_NoTokens_ArithmeticError]
  have e1 : ∀ (m : MH), metD m "count" (D.lst [.bl true, .bl false, .bl false, .bl false, .bl false, .bl false, .bl false, .bl false, .bl false, .bl false, .bl false, .bl false, .bl false, .bl false, .bl false, .bl false, .bl false, .bl false, .bl false, .bl false]) [.bl true] = some (.int 1, m) := fun m => by rw [met_count]; rfl
  have e2 : ∀ (m : MH), metD m "index" (D.lst [.bl true, .bl false, .bl false, .bl false, .bl false, .bl false, .bl false, .bl false, .bl false, .bl false, .bl false, .bl false, .bl false, .bl false, .bl false, .bl false, .bl false, .bl false, .bl false, .bl false]) [.bl true] = some (.int 0, m) := fun m => by rw [met_index]; rfl
  have q1 : ∀ (m : MH) (i j : Int), eqD m (.int i) (.int j) = some (i == j) := fun m i j => by simp [eqD, res, D.data, D.dep, D.eqv]
  have q2 : ∀ (m : MH), eqD m (.lst [.bl true, .bl false, .bl false]) (.lst [.bl true, .bl false, .bl false]) = some true := fun m => rfl
  have i3 : itD m .range [.int 3] = some (rangeD 0 3, none) := itD_rng (n := 3) (by decide)
  simp only [e1, e2, getw_some, q1, Option.map_some, intF, i3, rangeD, compW, gOk_none, true_and]
  simp
  have a0 : ∀ (x : D) r, atD m (.lst (x :: r)) (.int 0) = some x := fun x r => by simp [atD, atI, ixN0]
  simp only [q2, Option.map_some, getw_some, a0, truD_bl]
  exact h
theorem use_sort {a : Nat} {p : D} {m : MH} {Q : QD} {E : QX} (h : Q (.str tokensW) m) : pr_law_sort a [.exc a "NoTokens" ["place"] [p]] m Q E := ⟨p, rfl, fun _ _ ⟨e1, e2⟩ => by rw [e1, e2]; exact h, fun _ _ z => z.elim⟩
theorem use_show {d : D} {m : MH} {Q : QD} {E : QX} (ht : Tyi m d) (h : plc d = none → Q (.str (TL.joinL [32] (txts d))) m) (hx : ∀ p, plc d = some p → E ⟨"NoTokens", [("place", p)]⟩ m) : pr_show_tokens [d] m Q E :=
  ⟨d, ⟨rfl, ht⟩, fun _ _ ⟨e1, e2, e3⟩ => by rw [e2, e3]; exact h e1, fun _ _ ⟨p, e1, e2, e3⟩ => by rw [e2, e3]; exact hx p e1⟩
theorem use_read {d : D} {m : MH} {Q : QD} {E : QX} (ht : Tyi m d) (hl : ∀ s, d = .str s → s.length ≤ 100000) (h : plcW d = none → Q (.tup ((wrds d).map .str)) m) (hx : ∀ p, plcW d = some p → E ⟨"NoTokens", [("place", p)]⟩ m) : pr_read_tokens [d] m Q E :=
  ⟨d, ⟨rfl, ht, hl⟩, fun _ _ ⟨e1, e2, e3⟩ => by rw [e2, e3]; exact h e1, fun _ _ ⟨p, e1, e2, e3⟩ => by rw [e2, e3]; exact hx p e1⟩
theorem plc_kind {d p : D} (h : plc d = some p) : p = .non ∨ ∃ k : Nat, p = .int k := by
  cases d with
  | tup xs =>
    have h : (firstW xs).map (fun k : Nat => D.int (k : Int)) = some p := h
    obtain ⟨k, _, rfl⟩ := Option.map_eq_some_iff.mp h
    exact .inr ⟨k, rfl⟩
  | _ => cases h; exact .inl rfl
theorem plcW_kind {d p : D} (h : plcW d = some p) : p = .non ∨ ∃ k : Nat, p = .int k := by
  cases d with
  | str s => exact plc_kind (d := .tup ((wordsOf s).map .str)) h
  | _ => cases h; exact .inl rfl
/-- what is told of a refusal -/
theorem told_x {p : D} {a k : Nat} {d : D} {v : Option D} {m : MH} {rt : QD} {nx bk ct : Env0 → MH → Prop} (hp : p = .non ∨ ∃ k : Nat, p = .int k) (h : rt (.tup [.str tokensW, p]) m) :
    wpSs (C.heat a) l__law_told_2 (put [some (.int k), some d, v, none] 2 (some (Xn.d ⟨"NoTokens", [("place", p)]⟩ a))) m { nx := nx, rt := rt, bk := bk, ct := ct, xc := fun _ => noX } := by
  unfold l__law_told_2
  simp [bodyW, startE, wpSs, wpS, wpB, wpE, wpEs, wpTs, wpP, bifD, truD_bl, truD_int, truD_str, truD_non, truD_tup, truD_lst, getw_ite, lenF, lenD_str, lenD_tup, lenD_lst, lenD_scr, cmpD, ordD, itD_tup, itD_lst, itD_scr, itD_str, itD_enT, itD_enL, tgD, tgDs, wipes, muQ, heat_call, H__law_sort, Xn.d, heat_xfld, XF_NoTokens_place, xatD]
  refine use_sort ?_
  have q : ∀ m : MH, eqD m (.str tokensW) (.str [116, 111, 107, 101, 110, 115]) = some true := fun m => rfl
  simp only [q, getw_some, if_true]
  have a0 : ∀ (x : D) r, atD m (.lst (x :: r)) (.int 0) = some x := fun x r => by simp [atD, atI, ixN0]
  have i0 : isiF m [p, .ty "bool"] = some (.bl false) := by
    rcases hp with rfl | ⟨k, rfl⟩ <;> rfl
  simp [i0, intF, a0]
  exact h
theorem w_law_told : WOk C 4 b__law_told pr_law_told := wok C_mono <| by
  rintro ds m Q E ⟨⟨k, d⟩, ⟨rfl, hk, ht, hl⟩, h, _⟩
  replace h := h _ _ ⟨rfl, rfl⟩
  simp only at hk ht hl
  have sb : ∀ (x : D), subAny C "NoTokens" ["TongueError", "StandError", "RoomError"] = some true := fun _ => rfl
  have gx : ∀ (p : D) (a : Nat), (p = .non ∨ ∃ k : Nat, p = .int k) → toldD k d = .tup [.str tokensW, p] → wpSs (C.heat a) l__law_told_2 (put [some (.int k), some d, none, none] 2 (some (Xn.d ⟨"NoTokens", [("place", p)]⟩ a))) m { nx := fun ρ2 => fun m' => Q .non m', rt := Q, bk := fun _ _ => False, ct := fun _ _ => False, xc := fun _ => noX } := fun p a hp e => told_x hp (by rw [← e]; exact h)
  unfold b__law_told
  show wpSs C [.tryx l__law_told_1 ["TongueError", "StandError", "RoomError"] 2 l__law_told_2] [some (.int k), some d, none, none] m _
  unfold l__law_told_1
  have qi : ∀ (m : MH) (i j : Int), eqD m (.int i) (.int j) = some (i == j) := fun m i j => by simp [eqD, res, D.data, D.dep, D.eqv]
  have e4 : k = 0 ∨ k = 1 ∨ k = 2 ∨ k = 3 := by omega
  rcases e4 with rfl | rfl | rfl | rfl
  · simp [bodyW, startE, wpSs, wpS, wpB, wpE, wpEs, wpTs, wpP, bifD, truD_bl, truD_int, truD_str, truD_non, truD_tup, truD_lst, getw_ite, lenF, lenD_str, lenD_tup, lenD_lst, lenD_scr, cmpD, ordD, itD_tup, itD_lst, itD_scr, itD_str, itD_enT, itD_enL, tgD, tgDs, wipes, muQ, C_show_tokens, qi]
    refine use_show ht (fun e => ?_) fun p e => ?_
    · have ee : toldD 0 d = .tup [.str toldW, .str (TL.joinL [32] (txts d))] := by simp [toldD, e]
      rw [ee] at h; exact h
    · simp only [sb, getw_some, if_true]
      exact fun a => gx p a (plc_kind e) (by simp [toldD, e])
  · simp [bodyW, startE, wpSs, wpS, wpB, wpE, wpEs, wpTs, wpP, bifD, truD_bl, truD_int, truD_str, truD_non, truD_tup, truD_lst, getw_ite, lenF, lenD_str, lenD_tup, lenD_lst, lenD_scr, cmpD, ordD, itD_tup, itD_lst, itD_scr, itD_str, itD_enT, itD_enL, tgD, tgDs, wipes, muQ, C_show_tokens, qi, Sg.put, AS.get]
    refine use_show ht (fun e => ?_) fun p e => ?_
    · have ee : toldD 1 d = .tup [.str toldW, .str (TL.joinL [32] (txts d))] := by simp [toldD, e]
      rw [ee] at h; exact h
    · simp only [sb, getw_some, if_true]
      exact fun a => gx p a (plc_kind e) (by simp [toldD, e])
  · simp [bodyW, startE, wpSs, wpS, wpB, wpE, wpEs, wpTs, wpP, bifD, truD_bl, truD_int, truD_str, truD_non, truD_tup, truD_lst, getw_ite, lenF, lenD_str, lenD_tup, lenD_lst, lenD_scr, cmpD, ordD, itD_tup, itD_lst, itD_scr, itD_str, itD_enT, itD_enL, tgD, tgDs, wipes, muQ, C_read_tokens, qi]
    refine use_read ht hl (fun e => ?_) fun p e => ?_
    · have ee : toldD 2 d = .tup [.str toldW, .tup ((wrds d).map .str)] := by simp [toldD, e]
      rw [ee] at h; exact h
    · simp only [sb, getw_some, if_true]
      exact fun a => gx p a (plcW_kind e) (by simp [toldD, e])
  · simp [bodyW, startE, wpSs, wpS, wpB, wpE, wpEs, wpTs, wpP, bifD, truD_bl, truD_int, truD_str, truD_non, truD_tup, truD_lst, getw_ite, lenF, lenD_str, lenD_tup, lenD_lst, lenD_scr, cmpD, ordD, itD_tup, itD_lst, itD_scr, itD_str, itD_enT, itD_enL, tgD, tgDs, wipes, muQ, C_read_tokens, qi, Sg.put, AS.get]
    refine use_read ht hl (fun e => ?_) fun p e => ?_
    · have ee : toldD 3 d = .tup [.str toldW, .tup ((wrds d).map .str)] := by simp [toldD, e]
      rw [ee] at h; exact h
    · simp only [sb, getw_some, if_true]
      exact fun a => gx p a (plcW_kind e) (by simp [toldD, e])
end k03
end PT
end
section
set_option linter.all false
set_option maxRecDepth 100000
set_option maxHeartbeats 4000000
namespace PT
namespace k03
open PySem PySem.Spec PyProof.Rows L2 Lb

mutual
theorem eqv_refl : ∀ d : D, d.data = true → d.eqv d = true
  | .non, _ => rfl
  | .bl b, _ => by simp [D.eqv]
  | .int i, _ => by simp [D.eqv]
  | .str s, _ => by simp [D.eqv]
  | .tup xs, h => eqvs_refl xs h
  | .lst xs, h => eqvs_refl xs h
  | .scr xs, h => eqvs_refl xs h
  | .ref _, h => nomatch h
  | .ty _, h => nomatch h
  | .gl _, h => nomatch h
  | .dic _ _, h => nomatch h
  | .obj _ _ _, h => nomatch h
  | .exc _ _ _ _, h => nomatch h
theorem eqvs_refl : ∀ ds : List D, D.datas ds = true → D.eqvs ds ds = true
  | [], _ => rfl
  | d :: ds, h => by
    have h : (D.data d && D.datas ds) = true := h
    rw [Bool.and_eq_true] at h
    show (D.eqv d d && D.eqvs ds ds) = true
    rw [eqv_refl d h.1, eqvs_refl ds h.2]; rfl
end
theorem eq_lst {m : MH} {xs : List D} (h : D.datas xs = true) (hd : D.deps xs ≤ 59) : eqD m (.lst xs) (.lst xs) = some true := by
  have e : D.data (.lst xs) = true := h
  have e2 : D.dep (.lst xs) = D.deps xs + 1 := rfl
  have e3 : D.eqv (.lst xs) (.lst xs) = true := eqvs_refl xs h
  simp only [eqD, res, e, e2, e3, Bool.and_self, Bool.true_and]
  rw [if_pos (by simp; omega)]
theorem datas_strs : ∀ ws : List (List Nat), D.datas (ws.map .str) = true
  | [] => rfl
  | w :: ws => by
    show (D.data (.str w) && D.datas (ws.map .str)) = true
    rw [datas_strs ws]; rfl
theorem deps_strs : ∀ ws : List (List Nat), D.deps (ws.map .str) = 0
  | [] => rfl
  | w :: ws => by
    show max (D.dep (.str w)) (D.deps (ws.map .str)) = 0
    rw [deps_strs ws]; rfl
theorem split_len : ∀ (s acc : List Nat), (splitB 32 acc s).length ≤ s.length + 1
  | [], acc => by simp [splitB]
  | c :: s, acc => by
    unfold splitB
    split
    · have := split_len s []; simp; omega
    · have := split_len s (acc ++ [c]); simp; omega
theorem words_len (s : List Nat) : (wordsOf s).length ≤ s.length + 1 := Nat.le_trans (List.length_filter_le ..) (split_len s [])
theorem words_comp {s : List Nat} {m : MH} {Q : QD} (h : Q (.lst ((wordsOf s).map .str)) m) :
    compW none (fun d m2 K => getw (Option.map not (eqD m2 d (D.str []))) fun t => if t = true then K (some d) m2 else K none m2) (List.map D.str (splitB 32 [] s)) [] m Q := by
  refine comp_pure (fun d => match d with | .str w => if w = [] then none else some (.str w) | _ => none) ?_ ?_
  · intro d hd K hK
    obtain ⟨w, _, rfl⟩ := List.mem_map.mp hd
    simp only [eqD, res, D.data, D.dep, D.eqv, Bool.and_self, Nat.zero_le, decide_true, if_true, Option.map_some, getw_some, truD_bl]
    by_cases e : w = []
    · subst e; simpa using hK
    · have e2 : (w == ([] : List Nat)) = false := beq_eq_false_iff_ne.mpr e
      simp only [e, if_false] at hK
      simpa [e2] using hK
  · have e : (List.map D.str (splitB 32 [] s)).filterMap (fun d => match d with | .str w => if w = [] then none else some (D.str w) | _ => none) = (wordsOf s).map D.str := by
      unfold wordsOf
      induction splitB 32 [] s with
      | nil => rfl
      | cons w r ih =>
        rw [List.map_cons, List.filterMap_cons, List.filter_cons]
        by_cases e : w = []
        · simp [e, ih]
        · simp [e, ih]
    rw [e, List.nil_append]
    exact h
theorem use_told {k : Nat} {d : D} {m : MH} {Q : QD} {E : QX} (hk : k ≤ 3) (ht : Tyi m d) (hl : ∀ s, d = .str s → s.length ≤ 100000) (h : Q (toldD k d) m) : pr_law_told [.int k, d] m Q E := ⟨(k, d), ⟨rfl, hk, ht, hl⟩, fun _ _ ⟨e1, e2⟩ => by rw [e1, e2]; exact h, fun _ _ z => z.elim⟩
theorem told_some {k : Nat} {d p : D} (h : (if k ≤ 1 then plc d else plcW d) = some p) : toldD k d = .tup [.str tokensW, p] := by unfold toldD; rw [h]
/-- some askings -/
theorem told_comp {ks : List D} {d : D} {m : MH} {Q : QD} (hk : ∀ x ∈ ks, ∃ k : Nat, k ≤ 3 ∧ x = .int k) (ht : Tyi m d) (hl : ∀ s, d = .str s → s.length ≤ 100000) (h : Q (.lst (ks.map fun x => match x with | .int i => toldD i.toNat d | _ => .non)) m) :
    compW none (fun d0 m2 K => C.call "_law_told" [d0, d] m2 (fun y m4 => K (some y) m4) noX) ks [] m Q := by
  refine comp_pure (fun x => some (match x with | .int i => toldD i.toNat d | _ => .non)) ?_ ?_
  · intro d0 hd K hK
    obtain ⟨k, hk', rfl⟩ := hk d0 hd
    rw [C__law_told]
    refine use_told hk' ht hl ?_
    simpa using hK
  · rw [List.nil_append, filterMap_some]
    exact h
theorem mul3 {m : MH} {x : D} : binD m .mul (.lst [x]) (.int 3) = some (.lst [x, x, x]) := by
  have sl : sizeLine = 16777216 := sizeLine_eq
  simp [binD, mulD, sl]
theorem mul2 {m : MH} {x : D} : binD m .mul (.lst [x]) (.int 2) = some (.lst [x, x]) := by
  have sl : sizeLine = 16777216 := sizeLine_eq
  simp [binD, mulD, sl]
theorem plc_tup {xs : List D} : plc (.tup xs) = (firstW xs).map fun k : Nat => D.int (k : Int) := rfl
theorem w_law_read_right : WOk C 6 b__law_read_right pr_law_read_right := wok C_mono <| by
  rintro ds m Q E ⟨s, ⟨rfl, hl⟩, h, _⟩
  replace h := h _ _ ⟨rfl, rfl⟩
  unfold b__law_read_right
  simp [bodyW, startE, wpSs, wpS, wpB, wpE, wpEs, wpTs, wpP, bifD, truD_bl, truD_int, truD_str, truD_non, truD_tup, truD_lst, getw_ite, lenF, lenD_str, lenD_tup, lenD_lst, lenD_scr, cmpD, ordD, itD_tup, itD_lst, itD_scr, itD_str, itD_enT, itD_enL, tgD, tgDs, wipes, muQ, meT, tyD, metD, splitM, sizeLine_eq]
  refine ⟨by omega, words_comp ?_⟩
  simp only [muQ, tupF, seqOf, lstOf, Option.map_some, getw_some, C__law_amiss]
  have wl := words_len s
  refine use_amiss (by rw [List.length_map]; omega) ((tyi_strs (m := m) (wordsOf s)).2 _ rfl) ?_
  refine told_comp (fun x hx => by
    simp only [List.mem_cons, List.not_mem_nil, or_false] at hx
    rcases hx with rfl | rfl | rfl
    · exact ⟨2, by decide, rfl⟩
    · exact ⟨3, by decide, rfl⟩
    · exact ⟨2, by decide, rfl⟩) ⟨rfl, fun _ e => by cases e⟩ (fun _ e => by cases e; omega) ?_
  simp only [muQ, opt_is', getw_some, List.map_cons, List.map_nil, mul3]
  have eW : plcW (.str s) = (firstW ((wordsOf s).map .str)).map fun k : Nat => D.int (k : Int) := rfl
  cases e : firstW ((wordsOf s).map D.str) with
  | none =>
    rw [e] at eW
    have t2 : ∀ k : Nat, k = 2 ∨ k = 3 → toldD k (.str s) = .tup [.str toldW, .tup ((wordsOf s).map .str)] := by
      rintro k (rfl | rfl) <;> simp [toldD, eW, wrds]
    simp only [Option.isNone_none, if_true]
    rw [show toldD (Int.toNat 2) (.str s) = .tup [.str toldW, .tup ((wordsOf s).map .str)] from t2 2 (.inl rfl), show toldD (Int.toNat 3) (.str s) = .tup [.str toldW, .tup ((wordsOf s).map .str)] from t2 3 (.inr rfl)]
    have q := eq_lst (m := m) (xs := [.tup [.str toldW, .tup ((wordsOf s).map .str)], .tup [.str toldW, .tup ((wordsOf s).map .str)], .tup [.str toldW, .tup ((wordsOf s).map .str)]]) (by simp [D.datas, D.data, datas_strs]) (by simp [D.deps, D.dep, deps_strs])
    simp only [toldW] at q ⊢
    rw [q]; exact h
  | some k =>
    rw [e] at eW
    have t2 : ∀ k' : Nat, k' = 2 ∨ k' = 3 → toldD k' (.str s) = .tup [.str tokensW, .int k] := by
      rintro k' (rfl | rfl) <;> simp [toldD, eW]
    simp only [Option.isNone_some, Bool.false_eq_true, if_false]
    rw [show toldD (Int.toNat 2) (.str s) = .tup [.str tokensW, .int k] from t2 2 (.inl rfl), show toldD (Int.toNat 3) (.str s) = .tup [.str tokensW, .int k] from t2 3 (.inr rfl)]
    have q := eq_lst (m := m) (xs := [.tup [.str tokensW, .int k], .tup [.str tokensW, .int k], .tup [.str tokensW, .int k]]) rfl (by simp [D.deps, D.dep])
    simp only [tokensW, optD] at q ⊢
    rw [q]; exact h
end k03
end PT
end
section
set_option linter.all false
set_option maxRecDepth 100000
set_option maxHeartbeats 4000000
namespace PT
namespace k03
open PySem PySem.Spec PyProof.Rows L2 Lb

theorem w_law_shown_right : WOk C 4 b__law_shown_right pr_law_shown_right := wok C_mono <| by
  rintro ds m Q E ⟨xs, ⟨rfl, hl, hx⟩, h, _⟩
  replace h := h _ _ ⟨rfl, rfl⟩
  have ht : Tyi m (.tup xs) := ⟨rfl, fun ys e x hxx => by cases e; exact typ_tyd m (hx x hxx)⟩
  unfold b__law_shown_right
  simp [bodyW, startE, wpSs, wpS, wpB, wpE, wpEs, wpTs, wpP, bifD, truD_bl, truD_int, truD_str, truD_non, truD_tup, truD_lst, getw_ite, lenF, lenD_str, lenD_tup, lenD_lst, lenD_scr, cmpD, ordD, itD_tup, itD_lst, itD_scr, itD_str, itD_enT, itD_enL, tgD, tgDs, wipes, muQ, meT, tyD, metD, C__law_amiss]
  refine use_amiss hl (ht.2 xs rfl) ?_
  refine told_comp (fun x hx => by
    simp only [List.mem_cons, List.not_mem_nil, or_false] at hx
    rcases hx with rfl | rfl | rfl
    · exact ⟨0, by decide, rfl⟩
    · exact ⟨1, by decide, rfl⟩
    · exact ⟨0, by decide, rfl⟩) ht (fun _ e => by cases e) ?_
  simp only [muQ, opt_is', getw_some, List.map_cons, List.map_nil, mul3]
  have eW : plc (.tup xs) = (firstW xs).map fun k : Nat => D.int (k : Int) := rfl
  cases e : firstW xs with
  | none =>
    rw [e] at eW
    obtain ⟨ws, ex, hw, hwl, et⟩ := plc_none eW
    cases ex
    have t2 : ∀ k : Nat, k = 0 ∨ k = 1 → toldD k (.tup (ws.map .str)) = .tup [.str toldW, .str (TL.joinL [32] ws)] := by
      rintro k (rfl | rfl) <;> simp [toldD, eW, et]
    have jo := join_ok (m := m) (fun w hh => Nat.le_trans (tok_len (hw w hh)) (by decide)) (show ws.length ≤ 2000 by omega)
    simp only [Option.isNone_none, if_true, jo, Option.map_some, getw_some, mul3]
    rw [show toldD (Int.toNat 0) (.tup (ws.map .str)) = .tup [.str toldW, .str (TL.joinL [32] ws)] from t2 0 (.inl rfl), show toldD (Int.toNat 1) (.tup (ws.map .str)) = .tup [.str toldW, .str (TL.joinL [32] ws)] from t2 1 (.inr rfl)]
    have q := eq_lst (m := m) (xs := [.tup [.str toldW, .str (TL.joinL [32] ws)], .tup [.str toldW, .str (TL.joinL [32] ws)], .tup [.str toldW, .str (TL.joinL [32] ws)]]) rfl (by simp [D.deps, D.dep])
    simp only [toldW] at q ⊢
    rw [q]; exact h
  | some k =>
    rw [e] at eW
    have t2 : ∀ k' : Nat, k' = 0 ∨ k' = 1 → toldD k' (.tup xs) = .tup [.str tokensW, .int k] := by
      rintro k' (rfl | rfl) <;> simp [toldD, eW]
    simp only [Option.isNone_some, Bool.false_eq_true, if_false]
    rw [show toldD (Int.toNat 0) (.tup xs) = .tup [.str tokensW, .int k] from t2 0 (.inl rfl), show toldD (Int.toNat 1) (.tup xs) = .tup [.str tokensW, .int k] from t2 1 (.inr rfl)]
    have q := eq_lst (m := m) (xs := [.tup [.str tokensW, .int k], .tup [.str tokensW, .int k], .tup [.str tokensW, .int k]]) rfl (by simp [D.deps, D.dep])
    simp only [tokensW, optD] at q ⊢
    rw [q]; exact h
theorem use_Text0 {m : MH} {Q : QD} {E : QX} (h : ∀ p, m p = none → Q (.ref p) (m.set p (.ins "Text" [("rows", .tup [])]))) : newP "Text" pr_Text___init__ [.tup []] m Q E := fun p hp =>
  ⟨p, ⟨rfl, MH.set_same⟩, fun d m' ⟨e1, e2⟩ => ⟨e1, by rw [e2, MH.set_set]; exact h p hp⟩, fun _ _ z => z.elim⟩
theorem frz_ins {m : MH} {p : Nat} {c : String} {fs : List (String × D)} (hp : m p = none) : frzD (m.set p (.ins c fs)) (.ref p) = some (.obj c (fs.map (·.1)) (fs.map (·.2)), m) := by
  simp only [frzD, MH.set_same, MH.del_set hp]
theorem odd_typ {d : D} (h : oddB d = true) : typB d = true := by unfold oddB at h; rw [Bool.and_eq_true] at h; exact h.1
theorem odd_len {s : List Nat} (h : oddB (.str s) = true) : s.length ≤ 20 := by unfold oddB at h; simpa [typB] using h
theorem odd_tyi {d : D} (h : oddB d = true) (ht : isTupB d = false) (m : MH) : Tyi m d := ⟨typ_tyd m (odd_typ h), fun xs e => by rw [e] at ht; cases ht⟩
theorem two_non {m : MH} : eqD m (.lst [.tup [.str tokensW, .non], .tup [.str tokensW, .non]]) (.lst [.tup [.str tokensW, .non], .tup [.str tokensW, .non]]) = some true := eq_lst rfl (by simp [D.deps, D.dep])
theorem w_law_kinds_right : WOk C 2 b__law_kinds_right pr_law_kinds_right := wok C_mono <| by
  rintro ds m Q E ⟨_, rfl, h, _⟩
  replace h := h _ _ ⟨rfl, rfl⟩
  unfold b__law_kinds_right
  simp [bodyW, startE, wpSs, wpS, wpB, wpE, wpEs, wpTs, wpP, bifD, truD_bl, truD_int, truD_str, truD_non, truD_tup, truD_lst, getw_ite, lenF, lenD_str, lenD_tup, lenD_lst, lenD_scr, cmpD, ordD, itD_tup, itD_lst, itD_scr, itD_str, itD_enT, itD_enL, tgD, tgDs, wipes, muQ, C_Text, Sg.put, AS.get, DC.d]
  intro p hp0
  rw [frz_dlit hp0]
  simp only [getw_some]
  refine use_Text0 fun p1 hp1 => ?_
  rw [frz_ins hp1]
  simp only [getw_some]
  generalize hL : ([_, _, _, _, _, _, _, _, _, _] : List D) = L
  have hall : L.all (fun d => oddB d && !isTupB d) = true := by subst hL; rfl
  have k23 : ∀ x ∈ [D.int 2, D.int 3], ∃ k : Nat, k ≤ 3 ∧ x = .int k := fun x hx => by
    simp only [List.mem_cons, List.not_mem_nil, or_false] at hx
    rcases hx with rfl | rfl
    · exact ⟨2, by decide, rfl⟩
    · exact ⟨3, by decide, rfl⟩
  have k01 : ∀ x ∈ [D.int 0, D.int 1], ∃ k : Nat, k ≤ 3 ∧ x = .int k := fun x hx => by
    simp only [List.mem_cons, List.not_mem_nil, or_false] at hx
    rcases hx with rfl | rfl
    · exact ⟨0, by decide, rfl⟩
    · exact ⟨1, by decide, rfl⟩
  have fin : ∀ m' : MH, m' = m → compW none (fun d m2 K => C.call "_law_told" [d, D.tup [D.str [97]]] m2 (fun y m4 => K (some y) m4) noX) [D.int 2, D.int 3] [] m'
      (muQ false fun x m1 => getw (binD m1 BOp.mul (D.lst [D.tup [D.str [116, 111, 107, 101, 110, 115], D.non]]) (D.int 2)) fun z => getw (eqD m1 x z) fun z => Q (D.bl z) m1) := by
    rintro m' rfl
    refine told_comp k23 ⟨rfl, fun xs e x hx => by cases e; rw [List.mem_singleton.mp hx]; rfl⟩ (fun _ e => by cases e) ?_
    simp only [muQ, mul2, getw_some]
    have q := two_non (m := m')
    have e : ∀ k : Nat, k = 2 ∨ k = 3 → toldD k (.tup [.str [97]]) = .tup [.str tokensW, .non] := by rintro k (rfl | rfl) <;> rfl
    show getw (eqD m' (.lst [toldD 2 (.tup [.str [97]]), toldD 3 (.tup [.str [97]])]) _) _
    rw [e 2 (.inl rfl), e 3 (.inr rfl)]
    simp only [tokensW] at q ⊢
    rw [q]; exact h
  refine for_i C_mono (g := none) (fun i ρ m' => m' = m ∧ ∃ a b, ρ = [a, b]) ⟨rfl, _, _, rfl⟩ (fun _ _ _ _ _ => trivial) ?_ ?_
  · rintro i d ρ m' ed ⟨rfl, a, b, rfl⟩
    have hd := List.all_eq_true.mp hall d (List.mem_of_getElem? ed)
    rw [Bool.and_eq_true] at hd
    have hnt : isTupB d = false := by simpa using hd.2
    have ht := odd_tyi hd.1 hnt m'
    have hl : ∀ s, d = .str s → s.length ≤ 100000 := fun s e => by rw [e] at hd; have := odd_len hd.1; omega
    have pl : plc d = some .non := by cases d <;> first | rfl | cases hnt
    have e01 : ∀ k : Nat, k = 0 ∨ k = 1 → toldD k d = .tup [.str tokensW, .non] := by rintro k (rfl | rfl) <;> simp [toldD, pl]
    have q := two_non (m := m')
    have second : compW none (fun d_1 m2 K => C.call "_law_told" [d_1, d] m2 (fun y m4 => K (some y) m4) noX) [D.int 0, D.int 1] [] m'
        (muQ false fun x m1 => getw (binD m1 BOp.mul (D.lst [D.tup [D.str [116, 111, 107, 101, 110, 115], D.non]]) (D.int 2)) fun y => getw (Option.map not (eqD m1 x y)) fun t => if t = true then Q (D.bl false) m1 else m1 = m') := by
      refine told_comp k01 ht hl ?_
      simp only [muQ, mul2, getw_some]
      show getw (Option.map not (eqD m' (.lst [toldD 0 d, toldD 1 d]) _)) _
      rw [e01 0 (.inl rfl), e01 1 (.inr rfl)]
      simp only [tokensW] at q ⊢
      rw [q]
      simp
    unfold l__law_kinds_right_1
    simp [bodyW, startE, wpSs, wpS, wpB, wpE, wpEs, wpTs, wpP, bifD, truD_bl, truD_int, truD_str, truD_non, truD_tup, truD_lst, getw_ite, lenF, lenD_str, lenD_tup, lenD_lst, lenD_scr, cmpD, ordD, itD_tup, itD_lst, itD_scr, itD_str, itD_enT, itD_enL, tgD, tgDs, wipes, muQ, isi_str ht.1]
    cases hs : strB' (fun _ => true) d with
    | true =>
      simp only [if_true]
      exact second
    | false =>
      simp only [Bool.false_eq_true, if_false]
      have plw : plcW d = some .non := by cases d <;> first | rfl | cases hs
      have e23 : ∀ k : Nat, k = 2 ∨ k = 3 → toldD k d = .tup [.str tokensW, .non] := by rintro k (rfl | rfl) <;> simp [toldD, plw]
      refine told_comp k23 ht hl ?_
      simp only [muQ, mul2, getw_some]
      show getw (Option.map not (eqD m' (.lst [toldD 2 d, toldD 3 d]) _)) _
      rw [e23 2 (.inl rfl), e23 3 (.inr rfl)]
      have q2 := q
      simp only [tokensW] at q2 ⊢
      rw [q2]
      simp only [Option.map_some, Bool.not_true, getw_some, Bool.false_eq_true, if_false]
      exact second
  · rintro ρ m' ⟨e, a, b, rfl⟩
    have := fin m' e
    simpa using this
theorem use_kinds {m : MH} {Q : QD} {E : QX} (h : Q (.bl true) m) : pr_law_kinds_right [] m Q E := ⟨(), rfl, fun _ _ ⟨e1, e2⟩ => by rw [e1, e2]; exact h, fun _ _ z => z.elim⟩
theorem use_readr {s : List Nat} {m : MH} {Q : QD} {E : QX} (hl : s.length ≤ 90000) (h : Q (.bl true) m) : pr_law_read_right [.str s] m Q E := ⟨s, ⟨rfl, hl⟩, fun _ _ ⟨e1, e2⟩ => by rw [e1, e2]; exact h, fun _ _ z => z.elim⟩
theorem use_shown {xs : List D} {m : MH} {Q : QD} {E : QX} (hl : xs.length ≤ 100000) (hx : ∀ x ∈ xs, typB x = true) (h : Q (.bl true) m) : pr_law_shown_right [.tup xs] m Q E := ⟨xs, ⟨rfl, hl, hx⟩, fun _ _ ⟨e1, e2⟩ => by rw [e1, e2]; exact h, fun _ _ z => z.elim⟩
theorem w_law_odd : WOk C 2 b__law_odd pr_law_odd := wok C_mono <| by
  rintro ds m Q E ⟨a, ⟨rfl, hp⟩, h, _⟩
  replace h : ∀ d, oddB d = true → ∀ m', Keep m a m' → Q d m' := fun d h1 m' h2 => h d m' ⟨h1, h2⟩
  unfold b__law_odd
  simp [bodyW, startE, wpSs, wpS, wpB, wpE, wpEs, wpTs, wpP, bifD, truD_bl, truD_int, truD_str, truD_non, truD_tup, truD_lst, getw_ite, lenF, lenD_str, lenD_tup, lenD_lst, lenD_scr, cmpD, ordD, itD_tup, itD_lst, itD_scr, itD_str, itD_enT, itD_enL, tgD, tgDs, wipes, muQ, binD, addD, mulD, C_Text, C__law_pick, Sg.put, AS.get, DC.d, sizeLine_eq]
  intro p hp0
  rw [frz_dlit hp0]
  simp only [getw_some]
  refine use_Text0 fun p1 hp1 => ?_
  rw [frz_ins hp1]
  simp only [getw_some]
  intro p2 hp2
  rw [frz_dlit hp2]
  simp only [getw_some]
  refine pick hp (by decide) (by decide) fun r hr m1 h1 => ?_
  generalize hL : ([_, _, _, _, _, _, _, _, _, _, _, _, _, _, _, _, _, _, _, _, _, _, _, _, _, _, _, _, _, _, _, _, _] : List D) = L
  have hall : L.length = 33 ∧ L.all oddB = true := by subst hL; exact ⟨rfl, by decide⟩
  have hr : r < L.length := by omega
  rw [at_lst hr, getw_some]
  exact h _ (List.all_eq_true.mp hall.2 _ (List.getElem_mem hr)) m1 h1
end k03
end PT
end
section
set_option linter.all false
set_option maxRecDepth 100000
set_option maxHeartbeats 4000000
namespace PT
namespace k03
open PySem PySem.Spec PyProof.Rows L2 Lb

theorem cut_two {α : Type} (xs : List α) (a b : Nat) : cut xs (some (a : Int)) (some (b : Int)) = (xs.drop a).take (b - a) := by
  unfold cut
  rw [HT.sIx_nat, HT.sIx_nat]
  by_cases h : a ≤ xs.length
  · rw [Nat.min_eq_left h, List.take_eq_take_iff, List.length_drop]
    omega
  · rw [Nat.min_eq_right (show xs.length ≤ a by omega), List.drop_length, List.drop_of_length_le (show xs.length ≤ a by omega)]; simp
theorem add_tupD {m : MH} {xs ys : List D} (h : xs.length + ys.length ≤ 16777216) : addD m (.tup xs) (.tup ys) = some (.tup (xs ++ ys)) := by
  have sl : sizeLine = 16777216 := sizeLine_eq
  simp only [addD]
  rw [if_pos (by omega)]
theorem use_odd {m : MH} {a : Nat} {Q : QD} {E : QX} (hp : Pur m a) (h : ∀ d, oddB d = true → ∀ m', Keep m a m' → Q d m') : pr_law_odd [.ref a] m Q E := ⟨a, ⟨rfl, hp⟩, fun d m' ⟨h1, h2⟩ => h d h1 m' h2, fun _ _ z => z.elim⟩
theorem mem_app {xs ys : List D} (h1 : ∀ y ∈ xs, oddB y = true) (h2 : ∀ y ∈ ys, oddB y = true) : ∀ y ∈ xs ++ ys, oddB y = true := fun y hy => (List.mem_append.mp hy).elim (h1 y) (h2 y)
theorem mul_a {k : Int} (h1 : 0 ≤ k) (h2 : k ≤ 42) : mulD (.tup [.str [97]]) (.int k) = some (.tup (List.replicate k.toNat (.str [97]))) := by
  simp only [mulD, List.length_singleton]
  rw [if_pos (by omega)]
  congr 2
  induction k.toNat with
  | zero => rfl
  | succ n ih => rw [List.replicate_succ, List.flatten_cons, ih, List.replicate_succ]; rfl
theorem w_law_bent : WOk C 4 b__law_bent pr_law_bent := wok C_mono <| by
  rintro ds m Q E ⟨⟨a, xs⟩, ⟨rfl, hp, hx, hl⟩, h, _⟩
  replace h : ∀ ys m', (∀ y ∈ ys, oddB y = true) → ys.length ≤ xs.length + 50 → Keep m a m' → Q (.tup ys) m' := fun ys m' h1 h2 h3 => h _ m' ⟨ys, rfl, h1, h2, h3⟩
  simp only at hp hx hl
  unfold b__law_bent
  simp [bodyW, startE, wpSs, wpS, wpB, wpE, wpEs, wpTs, wpP, bifD, truD_bl, truD_int, truD_str, truD_non, truD_tup, truD_lst, getw_ite, lenF, lenD_str, lenD_tup, lenD_lst, lenD_scr, cmpD, ordD, itD_tup, itD_lst, itD_scr, itD_str, itD_enT, itD_enL, tgD, tgDs, wipes, muQ, binD, addD_i, subD, C__law_pick, C__law_odd]
  refine pick hp (by decide) (by decide) fun r1 hr1 m1 h1 => ?_
  refine pick h1.1 (by omega) (by omega) fun r hr m2 h2 => ?_
  have kk := h1.trans h2
  have ht : ∀ y ∈ xs.take r, oddB y = true := fun y hy => hx y (List.mem_of_mem_take hy)
  have hd : ∀ k, ∀ y ∈ xs.drop k, oddB y = true := fun k y hy => hx y (List.mem_of_mem_drop hy)
  have lt := List.length_take (i := r) (l := xs)
  have ld0 := List.length_drop (i := r) (l := xs)
  have ld1 := List.length_drop (i := r + 1) (l := xs)
  have c1 : ((r : Int) + 1) = ((r + 1 : Nat) : Int) := by omega
  have c40 : (40 : Int) = ((40 : Nat) : Int) := rfl
  have cone : (1 : Int) = ((1 : Nat) : Int) := rfl
  simp only [Lb.eq_int, getw_some, slD, addD_i, c1, cut_to, cut_from, cut_two]
  have l1 := List.length_take (i := r + 1 - r) (l := xs.drop r)
  have t1 : ∀ y ∈ (xs.drop r).take (r + 1 - r), oddB y = true := fun y hy => hd r y (List.mem_of_mem_take hy)
  have hr6 : r1 = 0 ∨ r1 = 1 ∨ r1 = 2 ∨ r1 = 3 ∨ r1 = 4 ∨ r1 = 5 := by omega
  rcases hr6 with rfl | rfl | rfl | rfl | rfl | rfl
  · simp only [show (((0 : Nat) : Int) == 0) = true from rfl, if_true]
    refine pick h2.1 (by decide) (by decide) fun r2 hr2 m3 h3 => ?_
    have t4 : ∀ y ∈ cut (cut ([.str [125], .str [123], .str [93], .str [91]] : List D) (some (r2 : Int)) none) none (some 1), oddB y = true := by
      intro y hy
      unfold cut at hy
      have hy2 := List.mem_of_mem_drop (List.mem_of_mem_take (List.mem_of_mem_drop (List.mem_of_mem_take hy)))
      simp only [List.mem_cons, List.not_mem_nil, or_false] at hy2
      rcases hy2 with rfl | rfl | rfl | rfl <;> rfl
    have l4 : (cut (cut ([.str [125], .str [123], .str [93], .str [91]] : List D) (some (r2 : Int)) none) none (some 1)).length ≤ 4 := by
      unfold cut
      simp only [List.length_take, List.length_drop]
      simp
      omega
    show getw (addD m3 (.tup (List.take r xs)) (.tup (cut (cut [.str [125], .str [123], .str [93], .str [91]] (some (r2 : Int)) none) none (some 1)))) _
    generalize hT : cut (cut ([.str [125], .str [123], .str [93], .str [91]] : List D) (some (r2 : Int)) none) none (some 1) = T at t4 l4
    rw [add_tupD (by omega), getw_some, add_tupD (by rw [List.length_append]; omega), getw_some]
    exact h _ _ (mem_app (mem_app ht t4) (hd _)) (by rw [List.length_append, List.length_append]; omega) (kk.trans h3)
  · simp only [show (((1 : Nat) : Int) == 0) = false from rfl, show (((1 : Nat) : Int) == 1) = true from rfl, if_true, Bool.false_eq_true, if_false]
    rw [add_tupD (by omega), getw_some]
    exact h _ _ (mem_app ht (hd _)) (by rw [List.length_append]; omega) kk
  · simp only [show (((2 : Nat) : Int) == 0) = false from rfl, show (((2 : Nat) : Int) == 1) = false from rfl, show (((2 : Nat) : Int) == 2) = true from rfl, if_true, Bool.false_eq_true, if_false]
    rw [add_tupD (by omega), getw_some, add_tupD (by rw [List.length_append]; omega), getw_some]
    exact h _ _ (mem_app (mem_app ht t1) (hd _)) (by rw [List.length_append, List.length_append]; omega) kk
  · simp only [show (((3 : Nat) : Int) == 0) = false from rfl, show (((3 : Nat) : Int) == 1) = false from rfl, show (((3 : Nat) : Int) == 2) = false from rfl, show (((3 : Nat) : Int) == 3) = true from rfl, if_true, Bool.false_eq_true, if_false]
    have ec : cut xs none (some 40) = xs.take 40 := cut_to xs 40
    have l40 := List.length_take (i := 40) (l := xs)
    simp only [ec, lenD_tup, Option.map_some, getw_some]
    refine pick h2.1 (by decide) (by decide) fun r2 hr2 m3 h3 => ?_
    rw [addD_i, getw_some]
    have b1 : (0 : Int) ≤ 40 - ((xs.take 40).length : Int) + (r2 : Int) := by omega
    by_cases hx40 : 40 ≤ xs.length
    · rw [mul_a b1 (by omega), getw_some]
      rw [add_tupD (by rw [List.length_replicate]; omega), getw_some]
      refine h _ _ (mem_app hx fun y hy => ?_) (by rw [List.length_append, List.length_replicate]; omega) (kk.trans h3)
      rw [(List.mem_replicate.mp hy).2]; rfl
    · rw [mul_a b1 (by omega), getw_some]
      rw [add_tupD (by rw [List.length_replicate]; omega), getw_some]
      refine h _ _ (mem_app hx fun y hy => ?_) (by rw [List.length_append, List.length_replicate]; omega) (kk.trans h3)
      rw [(List.mem_replicate.mp hy).2]; rfl
  · simp only [show (((4 : Nat) : Int) == 0) = false from rfl, show (((4 : Nat) : Int) == 1) = false from rfl, show (((4 : Nat) : Int) == 2) = false from rfl, show (((4 : Nat) : Int) == 3) = false from rfl, show (((4 : Nat) : Int) == 4) = true from rfl, if_true, Bool.false_eq_true, if_false]
    refine use_odd h2.1 fun d hd0 m3 h3 => ?_
    have o : ∀ y ∈ [d], oddB y = true := fun y hy => by rw [List.mem_singleton.mp hy]; exact hd0
    rw [add_tupD (by simp; omega), getw_some, add_tupD (by simp; omega), getw_some]
    exact h _ _ (mem_app (mem_app ht o) (hd _)) (by simp; omega) (kk.trans h3)
  · simp only [show (((5 : Nat) : Int) == 0) = false from rfl, show (((5 : Nat) : Int) == 1) = false from rfl, show (((5 : Nat) : Int) == 2) = false from rfl, show (((5 : Nat) : Int) == 3) = false from rfl, show (((5 : Nat) : Int) == 4) = false from rfl, if_true, Bool.false_eq_true, if_false]
    refine use_odd h2.1 fun d hd0 m3 h3 => ?_
    have o : ∀ y ∈ [d], oddB y = true := fun y hy => by rw [List.mem_singleton.mp hy]; exact hd0
    rw [add_tupD (by simp; omega), getw_some, add_tupD (by simp; omega), getw_some]
    exact h _ _ (mem_app (mem_app ht o) (hd _)) (by simp; omega) (kk.trans h3)
theorem use_bent {m : MH} {a : Nat} {xs : List D} {Q : QD} {E : QX} (hp : Pur m a) (hx : ∀ x ∈ xs, oddB x = true) (hl : xs.length ≤ 900) (h : ∀ ys m', (∀ y ∈ ys, oddB y = true) → ys.length ≤ xs.length + 50 → Keep m a m' → Q (.tup ys) m') : pr_law_bent [.ref a, .tup xs] m Q E :=
  ⟨(a, xs), ⟨rfl, hp, hx, hl⟩, fun d m' ⟨ys, h1, h2, h3, h4⟩ => by rw [h1]; exact h ys m' h2 h3 h4, fun _ _ z => z.elim⟩
end k03
end PT
end
section
set_option linter.all false
set_option maxRecDepth 100000
set_option maxHeartbeats 4000000
namespace PT
namespace k03
open PySem PySem.Spec PyProof.Rows L2 Lb

theorem join_okL {m : MH} {ws : List (List Nat)} (h : ∀ w ∈ ws, w.length ≤ 30) (hl : ws.length ≤ 2000) : joinM m (.str [32]) [.lst (ws.map .str)] = some (.str (TL.joinL [32] ws)) := by
  have s1 := joinL_len2 30 ws h
  simp only [joinM, seqOf, lstOf, Option.bind_some, strsOf_map, List.length_singleton]
  rw [if_pos (by omega)]
theorem join_len {ws : List (List Nat)} (h : ∀ w ∈ ws, w.length ≤ 30) (hl : ws.length ≤ 2000) : (TL.joinL [32] ws).length ≤ 90000 := by
  have s1 := joinL_len2 30 ws h
  have s2 := joinL_len [32] ws
  rw [List.length_singleton] at s2
  omega
theorem mul_al {k : Nat} (hk : k ≤ 1000) : mulD (.lst [.str [97]]) (.int k) = some (.lst ((List.replicate k [97]).map .str)) := by
  have sl : sizeLine = 16777216 := sizeLine_eq
  simp only [mulD, List.length_singleton]
  rw [if_pos (by omega)]
  congr 2
  rw [Int.toNat_natCast]
  clear hk
  induction k with
  | zero => rfl
  | succ n ih => rw [List.replicate_succ, List.flatten_cons, ih, List.replicate_succ]; rfl
def V0 (ns : List Int) (ρ : Env0) (m : MH) : Prop := ∃ (F : List (List Nat)) (c d e f g h j k l n o : Option D), ρ = [some (.scr (ns.map .int)), some (.lst (F.map .str)), c, d, e, f, g, h, j, k, l, n, o] ∧ ∀ s ∈ F, s.length ≤ 90000
theorem w_l0 {ns : List Int} {m : MH} {K : En} (h : ∀ ρ m, V0 ns ρ m → wpSs C (b_law.drop 4) ρ m K) : wpSs C b_law [some (.scr (ns.map .int)), none, none, none, none, none, none, none, none, none, none, none, none] m K := by
  refine wpSs_cut C_mono 4 (V0 ns) ?_ h
  unfold b_law
  simp [bodyW, startE, wpSs, wpS, wpB, wpE, wpEs, wpTs, wpP, bifD, truD_bl, truD_int, truD_str, truD_non, truD_tup, truD_lst, getw_ite, lenF, lenD_str, lenD_tup, lenD_lst, lenD_scr, cmpD, ordD, itD_tup, itD_lst, itD_scr, itD_str, itD_enT, itD_enL, tgD, tgDs, wipes, muQ, binD, meT, tyD, metD, List.take, sizeLine_eq]
  generalize hL1 : ([[123], [125], [123, 32, 125], [123, 32, 97, 32, 93], [123, 32, 91, 32, 93, 32, 125], [91, 32, 97, 32, 125, 32, 98], [97, 32, 123, 32, 98], [123, 32, 97, 32, 125, 32, 91, 32, 98, 32, 93], [123, 32, 97, 32, 125, 32, 125]] : List (List Nat)) = L1
  have e1 : ∀ m, addD m (D.lst [D.str [123], D.str [125], D.str [123, 32, 125], D.str [123, 32, 97, 32, 93], D.str [123, 32, 91, 32, 93, 32, 125], D.str [91, 32, 97, 32, 125, 32, 98], D.str [97, 32, 123, 32, 98], D.str [123, 32, 97, 32, 125, 32, 91, 32, 98, 32, 93], D.str [123, 32, 97, 32, 125, 32, 125]])
      (D.lst [D.str [97, 10, 98], D.str [32, 97, 32, 32, 98, 32], D.str [64, 97, 32, 35, 98, 32, 126, 99, 32, 38, 100, 32, 94, 69], D.str [64], D.str [97, 45, 98]]) =
      some (.lst ((L1 ++ [[97, 10, 98], [32, 97, 32, 32, 98, 32], [64, 97, 32, 35, 98, 32, 126, 99, 32, 38, 100, 32, 94, 69], [64], [97, 45, 98]]).map .str)) := fun m => by
    subst hL1
    exact add_lsts (ws := [[123], [125], [123, 32, 125], [123, 32, 97, 32, 93], [123, 32, 91, 32, 93, 32, 125], [91, 32, 97, 32, 125, 32, 98], [97, 32, 123, 32, 98], [123, 32, 97, 32, 125, 32, 91, 32, 98, 32, 93], [123, 32, 97, 32, 125, 32, 125]]) (vs := [[97, 10, 98], [32, 97, 32, 32, 98, 32], [64, 97, 32, 35, 98, 32, 126, 99, 32, 38, 100, 32, 94, 69], [64], [97, 45, 98]]) (by decide)
  generalize hF1 : L1 ++ ([[97, 10, 98], [32, 97, 32, 32, 98, 32], [64, 97, 32, 35, 98, 32, 126, 99, 32, 38, 100, 32, 94, 69], [64], [97, 45, 98]] : List (List Nat)) = F1 at e1
  have hF : (F1.all fun s => decide (s.length ≤ 100)) = true ∧ F1.length = 14 := by subst hF1 hL1; exact ⟨rfl, rfl⟩
  rw [e1 m, getw_some]
  have ja : ∀ (m : MH) (k : Nat), k ≤ 1000 → joinM m (.str [32]) [.lst ((List.replicate k [97]).map .str)] = some (.str (TL.joinL [32] (List.replicate k [97]))) := fun m k hk => join_okL (fun w hw => by rw [(List.mem_replicate.mp hw).2]; decide) (by rw [List.length_replicate]; omega)
  have la : ∀ k : Nat, k ≤ 1000 → (TL.joinL [32] (List.replicate k [97])).length ≤ 90000 := fun k hk => join_len (fun w hw => by rw [(List.mem_replicate.mp hw).2]; decide) (by rw [List.length_replicate]; omega)
  refine comp_pure (fun d => match d with | .int i => some (.str (TL.joinL [32] (List.replicate i.toNat [97]))) | _ => none) ?_ ?_
  · intro d hd K hK
    have hk : ∃ k : Nat, k ≤ 1000 ∧ d = .int k := by
      simp only [List.mem_cons, List.not_mem_nil, or_false] at hd
      rcases hd with rfl | rfl | rfl | rfl
      · exact ⟨39, by decide, rfl⟩
      · exact ⟨40, by decide, rfl⟩
      · exact ⟨41, by decide, rfl⟩
      · exact ⟨42, by decide, rfl⟩
    obtain ⟨k, hk, rfl⟩ := hk
    rw [mul_al hk, getw_some, ja _ k hk]
    simp only [Option.map_some, getw_some]
    simpa using hK
  · have ef : ([D.int 39, D.int 40, D.int 41, D.int 42].filterMap fun d => match d with | .int i => some (D.str (TL.joinL [32] (List.replicate i.toNat [97]))) | _ => none) = ([39, 40, 41, 42].map fun k => TL.joinL [32] (List.replicate k [97])).map D.str := rfl
    rw [ef, List.nil_append]
    generalize hG : ([39, 40, 41, 42].map fun k => TL.joinL [32] (List.replicate k [97])) = G
    have hGl : G.length = 4 ∧ ∀ s ∈ G, s.length ≤ 90000 := by
      subst hG
      refine ⟨rfl, fun s hs => ?_⟩
      obtain ⟨k, hk, rfl⟩ := List.mem_map.mp hs
      refine la k ?_
      simp only [List.mem_cons, List.not_mem_nil, or_false] at hk
      omega
    simp only [muQ]
    rw [add_lsts (by omega), getw_some]
    have m42 : mulD (.lst [.str [97]]) (.int 42) = some (.lst ((List.replicate 42 [97]).map .str)) := mul_al (k := 42) (by decide)
    have m41 : mulD (.lst [.str [97]]) (.int 41) = some (.lst ((List.replicate 41 [97]).map .str)) := mul_al (k := 41) (by decide)
    have a1 : ∀ m, addD m (.lst ((List.replicate 42 [97]).map .str)) (.lst [.str [45]]) = some (.lst ((List.replicate 42 [97] ++ [[45]]).map .str)) := fun m => add_lsts (vs := [[45]]) (by simp)
    have a2 : ∀ m, addD m (.lst [.str [123]]) (.lst ((List.replicate 41 [97]).map .str)) = some (.lst (([[123]] ++ List.replicate 41 [97]).map .str)) := fun m => add_lsts (ws := [[123]]) (by simp)
    have w1 : ∀ w ∈ List.replicate 42 [97] ++ [[45]], w.length ≤ 30 := fun w hw => by
      rcases List.mem_append.mp hw with hw | hw
      · rw [(List.mem_replicate.mp hw).2]; decide
      · rw [List.mem_singleton.mp hw]; decide
    have w2 : ∀ w ∈ [[123]] ++ List.replicate 41 [97], w.length ≤ 30 := fun w hw => by
      rcases List.mem_append.mp hw with hw | hw
      · rw [List.mem_singleton.mp hw]; decide
      · rw [(List.mem_replicate.mp hw).2]; decide
    simp only [m42, m41, a1, a2, getw_some, join_okL w1 (by simp), join_okL w2 (by simp), Option.map_some]
    have a3 : ∀ m, addD m (.lst ((F1 ++ G).map .str)) (.lst [.str (TL.joinL [32] (List.replicate 42 [97] ++ [[45]])), .str (TL.joinL [32] ([[123]] ++ List.replicate 41 [97]))]) = some (.lst ((F1 ++ G ++ [TL.joinL [32] (List.replicate 42 [97] ++ [[45]]), TL.joinL [32] ([[123]] ++ List.replicate 41 [97])]).map .str)) := fun m => add_lsts (vs := [TL.joinL [32] (List.replicate 42 [97] ++ [[45]]), TL.joinL [32] ([[123]] ++ List.replicate 41 [97])]) (by simp; omega)
    rw [a3, getw_some]
    refine ⟨_, _, _, _, _, _, _, _, _, _, _, _, rfl, fun s hs => ?_⟩
    rcases List.mem_append.mp hs with hs | hs
    · rcases List.mem_append.mp hs with hs | hs
      · have := List.all_eq_true.mp hF.1 s hs
        simp at this
        omega
      · exact hGl.2 s hs
    · simp only [List.mem_cons, List.not_mem_nil, or_false] at hs
      rcases hs with rfl | rfl
      · exact join_len w1 (by simp)
      · exact join_len w2 (by simp)
end k03
end PT
end
section
set_option linter.all false
set_option maxRecDepth 100000
set_option maxHeartbeats 4000000
namespace PT
namespace k03
open PySem PySem.Spec PyProof.Rows L2 Lb

def V1 (ns : List Int) (ρ : Env0) (m : MH) : Prop := ∃ (a r : Nat) (lot mk : List (List Nat)) (f b x u v w y : Option D) (z : Int), ρ = [some (.scr (ns.map .int)), f, b, some (.ref a), some (.int r), x, some (.int z), some (.lst (mk.map .str)), some (.tup (lot.map .str)), u, v, w, y] ∧
  Pur m a ∧ r ≤ 3 ∧ Plain lot ∧ lot.length ≤ 42 ∧ (∀ w ∈ mk, nameB w = true) ∧ mk.length ≤ 3
def V2 (ns : List Int) (ρ : Env0) (m : MH) : Prop := ∃ (a r : Nat) (lot : List (List Nat)) (f b x y u v w z t : Option D), ρ = [some (.scr (ns.map .int)), f, b, some (.ref a), some (.int r), x, y, z, some (.tup (lot.map .str)), u, v, w, t] ∧
  Pur m a ∧ r ≤ 3 ∧ lot.length ≤ 60 ∧ (∀ w ∈ lot, tokS w = true)
def V4 (ns : List Int) (ρ : Env0) (m : MH) : Prop := ∃ (xs : List D) (f b c r x y z u v w t : Option D), ρ = [some (.scr (ns.map .int)), f, b, c, r, x, y, z, some (.tup xs), u, v, w, t] ∧ (∀ d ∈ xs, oddB d = true) ∧ xs.length ≤ 400
theorem strs_odd {lot : List (List Nat)} (h : ∀ w ∈ lot, tokS w = true) : ∀ d ∈ lot.map D.str, oddB d = true := fun d hd => by
  obtain ⟨w, hw, rfl⟩ := List.mem_map.mp hd
  have := tok_len (h w hw)
  simp only [oddB, typB, Bool.true_and, decide_eq_true_eq]
  omega
theorem txts_len {xs : List D} (h : ∀ d ∈ xs, oddB d = true) : (∀ w ∈ txts (.tup xs), w.length ≤ 30) ∧ (txts (.tup xs)).length ≤ xs.length := by
  refine ⟨fun w hw => ?_, List.length_filterMap_le ..⟩
  obtain ⟨d, hd, e⟩ := List.mem_filterMap.mp hw
  cases d with
  | str s => cases e; have := odd_len (h _ hd); omega
  | _ => cases e
theorem ef_txts (zs : List D) : (zs.filterMap fun d => match d with | .str s => some (D.str s) | _ => none) = (txts (.tup zs)).map D.str := by
  show _ = (zs.filterMap fun d => match d with | .str s => some s | _ => none).map D.str
  induction zs with
  | nil => rfl
  | cons d zs ih =>
    cases d <;> simp [List.filterMap_cons, ih]
theorem w_l2 {ns : List Int} {ρ : Env0} {m : MH} {i : Nat} {rt : QD} {bk ct nx : Env0 → MH → Prop} {xc : Env0 → QX} (hi : i < 8) (v : ∃ b c d e f g h j k l n, ρ = [some (.scr (ns.map .int)), b, some (.int i), c, d, e, f, g, h, j, k, l, n])
    (hn : ∀ ρ' m', (∃ b c d e f g h j k l n o, ρ' = [some (.scr (ns.map .int)), b, c, d, e, f, g, h, j, k, l, n, o]) → nx ρ' m') : wpSs C l_law_2 ρ m { nx := nx, rt := rt, bk := bk, ct := ct, xc := xc } := by
  obtain ⟨b, c, d, e, f, g, h, j, k, l, n, rfl⟩ := v
  unfold l_law_2
  refine wpSs_cut C_mono 4 (V1 ns) ?_ ?_
  · simp [bodyW, startE, wpSs, wpS, wpB, wpE, wpEs, wpTs, wpP, bifD, truD_bl, truD_int, truD_str, truD_non, truD_tup, truD_lst, getw_ite, lenF, lenD_str, lenD_tup, lenD_lst, lenD_scr, cmpD, ordD, itD_tup, itD_lst, itD_scr, itD_str, itD_enT, itD_enL, tgD, tgDs, wipes, muQ, C__law_purse, C__law_cell, C__law_pick, C__law_names, C__law_tokens, List.take, binD]
    refine use_cell (by omega) fun cell => use_purse fun a m1 _ hp0 _ => ?_
    refine pick hp0 (by decide) (by decide) fun r1 hr1 m2 h2 => ?_
    have e1 : addD m2 (.int 1) (.int r1) = some (.int ((1 + r1 : Nat) : Int)) := by rw [addD_i]; congr 2
    rw [e1, getw_some]
    refine pick h2.1 (by decide) (by decide) fun r2 hr2 m3 h3 => ?_
    have hu : ∃ u : Nat, atD m3 (.lst [.int 5, .int 39]) (.int r2) = some (.int u) ∧ u ≤ 39 := by
      have hr : r2 = 0 ∨ r2 = 1 := by omega
      rcases hr with rfl | rfl
      · exact ⟨5, rfl, by decide⟩
      · exact ⟨39, rfl, by decide⟩
    obtain ⟨u, eu, hu⟩ := hu
    rw [eu, getw_some]
    refine pick h3.1 (by decide) (by decide) fun r3 hr3 m4 h4 => ?_
    refine pick h4.1 (by decide) (by decide) fun r4 hr4 m5 h5 => ?_
    refine use_names h5.1 (by omega) fun mk hmk hmkl _ m6 h6 => ?_
    have sl1 : slD m6 none (some 1) (.lst (mk.map .str)) = some (.lst ((mk.take 1).map .str)) := by
      show slD m6 none (some ((1 : Nat) : Int)) _ = _
      simp only [slD, cut_map]
      rw [cut_to]
    simp [bodyW, startE, wpSs, wpS, wpB, wpE, wpEs, wpTs, wpP, bifD, truD_bl, truD_int, truD_str, truD_non, truD_tup, truD_lst, getw_ite, lenF, lenD_str, lenD_tup, lenD_lst, lenD_scr, cmpD, ordD, itD_tup, itD_lst, itD_scr, itD_str, itD_enT, itD_enL, tgD, tgDs, wipes, muQ, sl1]
    rw [← List.map_take]
    refine use_tokens (u := u) (ms := mk.take 1) (b := false) h6.1 (by omega) (by simp; omega) (by omega) (fun w hw => hmk w (List.mem_of_mem_take hw)) hmk fun lot hlot hlotl m7 h7 => ?_
    rw [List.length_take] at hlotl
    exact ⟨a, 1 + r1, lot, mk, _, _, _, _, _, _, _, _, rfl, h7.1, by omega, hlot.1, by omega, hmk, by omega⟩
  · rintro ρ m ⟨a, r, lot, mk, f, b, x, u, v, w, y, z, rfl, hp, hr, hlot, hlotl, hmk, hmkl⟩
    refine wpSs_cut C_mono 1 (V2 ns) ?_ ?_
    · simp [bodyW, startE, wpSs, wpS, wpB, wpE, wpEs, wpTs, wpP, bifD, truD_bl, truD_int, truD_str, truD_non, truD_tup, truD_lst, getw_ite, lenF, lenD_str, lenD_tup, lenD_lst, lenD_scr, cmpD, ordD, itD_tup, itD_lst, itD_scr, itD_str, itD_enT, itD_enL, tgD, tgDs, wipes, muQ, Lb.eq_int, C__law_with_note, List.take, List.drop]
      split
      · refine use_note hp (by omega) hlot (by omega) hmk fun F hF _ _ hl m2 h2 => ?_
        exact ⟨a, r, F, _, _, _, _, _, _, _, _, _, rfl, h2.1, hr, by omega, hF⟩
      · exact ⟨a, r, lot, _, _, _, _, _, _, _, _, _, rfl, hp, hr, by omega, fun w hw => (hlot w hw).1⟩
    · rintro ρ m ⟨a, r, lot, f, b, x, y, u, v, w, z, t, rfl, hp, hr, hlotl, htk⟩
      refine wpSs_cut C_mono 1 (V2 ns) ?_ ?_
      · simp [bodyW, startE, wpSs, wpS, wpB, wpE, wpEs, wpTs, wpP, bifD, truD_bl, truD_int, truD_str, truD_non, truD_tup, truD_lst, getw_ite, lenF, lenD_str, lenD_tup, lenD_lst, lenD_scr, cmpD, ordD, itD_tup, itD_lst, itD_scr, itD_str, itD_enT, itD_enL, tgD, tgDs, wipes, muQ, C__law_shown_right, C__law_read_right, meT, tyD, metD, List.take, List.drop]
        refine use_shown (by rw [List.length_map]; omega) (fun d hd => odd_typ (strs_odd htk d hd)) ?_
        have w30 : ∀ w ∈ lot, w.length ≤ 30 := fun w hw => Nat.le_trans (tok_len (htk w hw)) (by decide)
        simp only [truD_bl, getw_some, Bool.not_true, Bool.false_eq_true, if_false, join_ok (m := m) w30 (by omega), Option.map_some]
        refine use_readr (join_len w30 (by omega)) ?_
        simp [truD_bl]
        exact ⟨a, r, lot, _, _, _, _, _, _, _, _, _, rfl, hp, hr, hlotl, htk⟩
      · rintro ρ m ⟨a, r, lot, f, b, x, y, u, v, w, z, t, rfl, hp, hr, hlotl, htk⟩
        refine wpSs_cut C_mono 1 (V4 ns) ?_ ?_
        · simp [bodyW, startE, wpSs, wpS, wpB, wpE, wpEs, wpTs, wpP, bifD, truD_bl, truD_int, truD_str, truD_non, truD_tup, truD_lst, getw_ite, lenF, lenD_str, lenD_tup, lenD_lst, lenD_scr, cmpD, ordD, itD_tup, itD_lst, itD_scr, itD_str, itD_enT, itD_enL, tgD, tgDs, wipes, muQ, List.take, List.drop]
          rw [itD_rng (by omega), getw_some]
          refine for_i C_mono (g := none) (fun i ρ m' => Pur m' a ∧ ∃ xs w', ρ = [some (.scr (ns.map .int)), f, b, some (.ref a), some (.int r), x, y, z, some (.tup xs), w', v, w, t] ∧ (∀ d ∈ xs, oddB d = true) ∧ xs.length ≤ 60 + 50 * i)
            ⟨hp, _, _, rfl, strs_odd htk, by rw [List.length_map]; omega⟩ (fun _ _ _ _ _ => trivial) ?_ ?_
          · rintro i d0 ρ m' ed ⟨hp', xs, w', rfl, hd, hl⟩
            have hi : i < r := by
              have := (List.getElem?_eq_some_iff.mp ed).1
              rwa [rangeD_len] at this
            unfold l_law_1
            simp [bodyW, startE, wpSs, wpS, wpB, wpE, wpEs, wpTs, wpP, bifD, truD_bl, truD_int, truD_str, truD_non, truD_tup, truD_lst, getw_ite, lenF, lenD_str, lenD_tup, lenD_lst, lenD_scr, cmpD, ordD, itD_tup, itD_lst, itD_scr, itD_str, itD_enT, itD_enL, tgD, tgDs, wipes, muQ, C__law_bent]
            refine use_bent hp' hd (by omega) fun ys m2 hy hyl k2 => ?_
            refine ⟨k2.1, ys, ?_⟩
            simp
            exact ⟨hy, by omega⟩
          · rintro ρ m' ⟨hp', xs, w', rfl, hd, hl⟩
            rw [rangeD_len] at hl
            exact ⟨xs, _, _, _, _, _, _, _, _, _, _, _, rfl, hd, by omega⟩
        · rintro ρ m ⟨xs, f, b, c, r, x, y, z, u, v, w, t, rfl, hx, hxl⟩
          simp [bodyW, startE, wpSs, wpS, wpB, wpE, wpEs, wpTs, wpP, bifD, truD_bl, truD_int, truD_str, truD_non, truD_tup, truD_lst, getw_ite, lenF, lenD_str, lenD_tup, lenD_lst, lenD_scr, cmpD, ordD, itD_tup, itD_lst, itD_scr, itD_str, itD_enT, itD_enL, tgD, tgDs, wipes, muQ, C__law_shown_right, C__law_read_right, meT, tyD, metD, List.take, List.drop]
          refine use_shown (by omega) (fun d hd => odd_typ (hx d hd)) ?_
          simp only [truD_bl, getw_some, Bool.not_true, Bool.false_eq_true, if_false]
          refine comp_pure (fun d => match d with | .str s => some (.str s) | _ => none) ?_ ?_
          · intro d hd K hK
            rw [isi_str (typ_tyd m (odd_typ (hx d hd)))]
            cases d <;> simpa [strB', truD_bl] using hK
          · have ef := ef_txts xs
            rw [ef, List.nil_append]
            obtain ⟨t1, t2⟩ := txts_len hx
            simp only [muQ, join_okL (m := m) t1 (by omega), Option.map_some, getw_some]
            refine use_readr (join_len t1 (by omega)) ?_
            simp [truD_bl]
            exact hn _ _ ⟨_, _, _, _, _, _, _, _, _, _, _, _, rfl⟩
theorem w_law : WOk C 13 b_law pr_law := wok C_mono <| by
  rintro ds m Q E ⟨ns, ⟨rfl, hl⟩, h, _⟩
  replace h : ∀ m', Q (.bl true) m' := fun m' => h _ m' rfl
  refine w_l0 (m := m) ?_
  rintro ρ m ⟨F, c, d, e, f, g, hh, j, k, l, n, o, rfl, hF⟩
  unfold b_law
  simp [bodyW, startE, wpSs, wpS, wpB, wpE, wpEs, wpTs, wpP, bifD, truD_bl, truD_int, truD_str, truD_non, truD_tup, truD_lst, getw_ite, lenF, lenD_str, lenD_tup, lenD_lst, lenD_scr, cmpD, ordD, itD_tup, itD_lst, itD_scr, itD_str, itD_enT, itD_enL, tgD, tgDs, wipes, muQ, C__law_read_right, C__law_kinds_right, List.drop]
  refine comp_pure (fun _ => some (.bl true)) ?_ ?_
  · intro d hd K hK
    obtain ⟨s, hs, rfl⟩ := List.mem_map.mp hd
    exact use_readr (hF s hs) hK
  · rw [filterMap_some, List.nil_append]
    have eb : boolsOf ((F.map D.str).map (fun _ => D.bl true)) = some ((F.map D.str).map fun _ => true) := boolsOf_map _ _
    simp only [muQ, allF, lstOf, Option.bind_some, eb, Option.map_some, getw_some, truD_bl]
    have et : ((F.map D.str).map fun _ => true).all id = true := by simp
    rw [et]
    simp only [Bool.not_true, Bool.false_eq_true, if_false]
    refine use_kinds ?_
    simp only [truD_bl, getw_some, Bool.not_true, Bool.false_eq_true, if_false]
    obtain ⟨k, hk, ek⟩ := rng_mm 8 ns.length (by decide)
    have g1 : ∀ K : D → Prop, (getw (minF [.int 8, .int (ns.length : Int)]) fun z => getw (maxF [.int 2, z]) K) = K (.int k) := fun K => by
      rw [← getw_bind]
      have ek : (minF [.int 8, .int (ns.length : Int)]).bind (fun z => maxF [.int 2, z]) = some (.int (k : Int)) := ek
      rw [ek]; rfl
    try simp only [List.length_map]
    simp only [g1]
    rw [itD_rng (by omega), getw_some]
    refine for_i C_mono (g := none) (fun i ρ m' => ∃ b c d e f g h j k l n o, ρ = [some (.scr (ns.map .int)), b, c, d, e, f, g, h, j, k, l, n, o]) ⟨_, _, _, _, _, _, _, _, _, _, _, _, rfl⟩ (fun _ _ _ _ _ => trivial) ?_ (fun _ m' _ => h m')
    rintro i d ρ m0 ed ⟨b, c, x, e, f, g, w, j, k', l, n, o, rfl⟩
    have hi : i < k := by
      have := (List.getElem?_eq_some_iff.mp ed).1
      rwa [rangeD_len] at this
    rw [rangeD_get _ 0 i hi] at ed
    cases ed
    have z : (0 : Int) + (i : Int) = (i : Int) := by omega
    simp only [tgD, put_zero, put_succ, getw_some, z]
    exact w_l2 (by omega) ⟨_, _, _, _, _, _, _, _, _, _, _, rfl⟩ fun ρ' m' hv => hv
end k03
end PT
end
section
set_option linter.all false
set_option maxRecDepth 100000
set_option maxHeartbeats 4000000
namespace PT
namespace k03
open PySem PySem.Spec PyProof.Rows L2 Lb
theorem ex_of {K : PySem.W.Frag} (h : exB K = true) (b : Bool) (hb : b ∈ exL K) : b = true := by
  unfold exB at h
  rw [List.all_eq_true] at h
  exact h b hb
section
variable {P : Program} {w : World} {K : PySem.W.Frag} {h : Heap} {mg : Str → Option Value}
theorem hm_of (X : K.In h) (G : h.Ns mainGlobals mg) (c : He.SaysD faL fnL K) {n : String} (hn : n ∈ defN ++ clsN ++ refN) : mg (Str.ofString n) = some (.ref (He.ga K (Str.ofString n))) :=
  He.glo_ok X G (He.SaysD.facts c (List.mem_append_left _ (List.mem_append_left _ (List.mem_append_right _ (List.mem_map.mpr ⟨n, hn, rfl⟩)))))
theorem con_of (c : He.SaysD faL fnL K) {f : He.Fa} (hf : f ∈ conL) : f.ok K = true := He.SaysD.facts c (List.mem_append_left _ (List.mem_append_right _ hf))
theorem cf_of (c : He.SaysD faL fnL K) {f : He.Fa} (hf : f ∈ cfL) : f.ok K = true := He.SaysD.facts c (List.mem_append_right _ hf)
theorem lookup_mem {α : Type} {x : String} {d : α} : ∀ {l : List (String × α)}, l.lookup x = some d → (x, d) ∈ l
  | [], h => by cases h
  | (k, v) :: l, h => by
    rw [List.lookup_cons] at h
    cases e : x == k with
    | true => rw [e] at h; cases h; have e : x = k := by simpa using e
              rw [e]; exact List.mem_cons_self ..
    | false => rw [e] at h; exact List.mem_cons_of_mem _ (lookup_mem h)
theorem blt_of (X : K.In h) (G : h.Ns mainGlobals mg) (c : He.SaysD faL fnL K) : ∀ n ∈ bltN, mg (Str.ofString n) = none := fun n hn =>
  He.free_ok X G (He.SaysD.facts c (List.mem_append_left _ (List.mem_append_left _ (List.mem_append_left _ (List.mem_map.mpr ⟨n, List.mem_append_left _ hn, rfl⟩)))))
theorem glo_of (X : K.In h) (G : h.Ns mainGlobals mg) (c : He.SaysD faL fnL K) (ex : exB K = true) : ∀ x d, C.glob x = some d → GlF K mg x d := by
  intro x d e
  have m := lookup_mem (show gloC.lookup x = some d from e)
  simp only [gloC, List.mem_cons, List.not_mem_nil, or_false, Prod.mk.injEq] at m
  rcases m with ⟨rfl, rfl⟩ | ⟨rfl, rfl⟩ | ⟨rfl, rfl⟩ | ⟨rfl, rfl⟩ | ⟨rfl, rfl⟩ | ⟨rfl, rfl⟩ | ⟨rfl, rfl⟩
  · exact gl_int (He.int_ok X G (con_of c (f := .int "MOST_NAME" 8) (by simp [conL])))
  · exact gl_str (z := "abcdefghijklmnopqrstuvwxyz") (He.str_ok X G (con_of c (f := .str "SMALL" "abcdefghijklmnopqrstuvwxyz") (by simp [conL]))) (by decide +kernel) (by decide +kernel)
  · exact gl_int (He.int_ok X G (con_of c (f := .int "MOST_WORD" 12) (by simp [conL])))
  · exact gl_str (z := "abcdefghijklmnopqrstuvwxyzABCDEFGHIJKLMNOPQRSTUVWXYZ0123456789.,") (He.str_ok X G (con_of c (f := .str "SIGNS" "abcdefghijklmnopqrstuvwxyzABCDEFGHIJKLMNOPQRSTUVWXYZ0123456789.,") (by simp [conL]))) (by decide +kernel) (by decide +kernel)
  · exact gl_tup (hm_of X G c (by decide)) (He.tupB_ok (ex_of ex (He.tupB K "BRACKETS" [.str "{", .str "}", .str "[", .str "]"]) (by simp [exL])) _) (fun F H => ⟨_, _, rfl, ⟨congrArg V.str (show ("{" : Str) = mkS [123] by decide +kernel), by decide, by decide⟩, ⟨_, _, rfl, ⟨congrArg V.str (show ("}" : Str) = mkS [125] by decide +kernel), by decide, by decide⟩, ⟨_, _, rfl, ⟨congrArg V.str (show ("[" : Str) = mkS [91] by decide +kernel), by decide, by decide⟩, ⟨_, _, rfl, ⟨congrArg V.str (show ("]" : Str) = mkS [93] by decide +kernel), by decide, by decide⟩, rfl⟩⟩⟩⟩) (by decide)
  · exact gl_int (He.int_ok X G (con_of c (f := .int "MOST_TOKENS" 40) (by simp [conL])))
  · exact gl_int (He.int_ok X G (con_of c (f := .int "MOST_ROWS" 80) (by simp [conL])))
theorem dic_of' (X : K.In h) (G : h.Ns mainGlobals mg) (ex : exB K = true) (c : He.SaysD faL fnL K) (tb : tsL.map (fun t => He.dicW K (t.1 K)) = tsL.map fun t => some (He.keysIn w.params t.2)) : ∀ x tab, C.dic x = some tab → DictF K w mg x tab := by
  intro x tab e
  have m := lookup_mem (show dicC.lookup x = some tab from e)
  simp only [dicC, List.mem_cons, List.not_mem_nil, or_false, Prod.mk.injEq] at m
  rcases m with ⟨rfl, rfl⟩
  · have t0 : He.dicW K (He.ga K "PAIRS") = some (He.keysIn w.params (["{", "["] : List Str)) := by
      have z := congrArg (fun l => l[0]?) tb
      exact Option.some.inj z
    refine dic_of (kvs := []) (hm_of X G c (by decide)) ?_ ?_
    · have e : (pairsT.map fun p => mkS p.1) = (["{", "["] : List Str) := by decide +kernel
      rw [e]; exact t0
    · intro p hp
      simp only [pairsT, List.mem_cons, List.not_mem_nil, or_false] at hp
      rcases hp with rfl | rfl
      · obtain ⟨u, h1, h2⟩ := He.valsB_ok (ex_of ex (He.valsB K (He.ga K "PAIRS") [("{", .str "}"), ("[", .str "]")]) (by simp [exL])) (q := ("{", .str "}")) (by simp)
        refine ⟨u, _, ?_, h2, fun F H => ?_⟩
        · rw [show mkS [123] = ("{" : Str) by decide +kernel]; exact h1
        · exact ⟨congrArg V.str (show ("}" : Str) = mkS [125] by decide +kernel), by decide, by decide⟩
      · obtain ⟨u, h1, h2⟩ := He.valsB_ok (ex_of ex (He.valsB K (He.ga K "PAIRS") [("{", .str "}"), ("[", .str "]")]) (by simp [exL])) (q := ("[", .str "]")) (by simp)
        refine ⟨u, _, ?_, h2, fun F H => ?_⟩
        · rw [show mkS [91] = ("[" : Str) by decide +kernel]; exact h1
        · exact ⟨congrArg V.str (show ("]" : Str) = mkS [93] by decide +kernel), by decide, by decide⟩
theorem cls_of (X : K.In h) (G : h.Ns mainGlobals mg) (ex : exB K = true) (c : He.SaysD faL fnL K) : ∀ x ∈ clsN, ClsAt K mg x (He.ga K (Str.ofString x)) := by
  intro x hx
  simp only [clsN, List.mem_cons, List.not_mem_nil, or_false] at hx
  rcases hx with rfl | rfl
  · exact clsB_ok (hm_of X G c (by decide)) (ex_of ex (clsB K "Shape") (by simp [exL])) (by decide)
  · exact clsB_ok (hm_of X G c (by decide)) (ex_of ex (clsB K "Text") (by simp [exL])) (by decide)
theorem fld_of (X : K.In h) (G : h.Ns mainGlobals mg) (c : He.SaysD faL fnL K) : ∀ t f, C.fld t f = true → tyNames.contains t = false ∧ ∀ A, mg (Str.ofString t) = some (.ref A) → NoAttr K A (Str.ofString f) := by
  intro t f e
  have m : (t, f) ∈ fldC := by simpa [C] using e
  simp only [fldC, List.mem_cons, List.not_mem_nil, or_false, Prod.mk.injEq] at m
  rcases m with ⟨rfl, rfl⟩ | ⟨rfl, rfl⟩ | ⟨rfl, rfl⟩ | ⟨rfl, rfl⟩ | ⟨rfl, rfl⟩ | ⟨rfl, rfl⟩ | ⟨rfl, rfl⟩
  · exact ⟨by decide, fun A hA => by rw [hm_of X G c (n := "Shape") (by decide)] at hA; cases hA; exact He.noat_ok (cf_of c (f := .noat "Shape" "ruled") (by simp [cfL]))⟩
  · exact ⟨by decide, fun A hA => by rw [hm_of X G c (n := "Shape") (by decide)] at hA; cases hA; exact He.noat_ok (cf_of c (f := .noat "Shape" "begun") (by simp [cfL]))⟩
  · exact ⟨by decide, fun A hA => by rw [hm_of X G c (n := "Shape") (by decide)] at hA; cases hA; exact He.noat_ok (cf_of c (f := .noat "Shape" "whens") (by simp [cfL]))⟩
  · exact ⟨by decide, fun A hA => by rw [hm_of X G c (n := "Shape") (by decide)] at hA; cases hA; exact He.noat_ok (cf_of c (f := .noat "Shape" "columns") (by simp [cfL]))⟩
  · exact ⟨by decide, fun A hA => by rw [hm_of X G c (n := "Shape") (by decide)] at hA; cases hA; exact He.noat_ok (cf_of c (f := .noat "Shape" "lines") (by simp [cfL]))⟩
  · exact ⟨by decide, fun A hA => by rw [hm_of X G c (n := "Shape") (by decide)] at hA; cases hA; exact He.noat_ok (cf_of c (f := .noat "Shape" "cover") (by simp [cfL]))⟩
  · exact ⟨by decide, fun A hA => by rw [hm_of X G c (n := "Text") (by decide)] at hA; cases hA; exact He.noat_ok (cf_of c (f := .noat "Text" "rows") (by simp [cfL]))⟩
theorem isi_of (X : K.In h) (G : h.Ns mainGlobals mg) (ex : exB K = true) (c : He.SaysD faL fnL K) : ∀ x, C.cls x = true → IsiOk K mg C.cls x := by
  intro x e
  have m : x ∈ clsC := by simpa [C] using e
  simp only [clsC, List.mem_cons, List.not_mem_nil, or_false] at m
theorem sub_of (X : K.In h) (G : h.Ns mainGlobals mg) (ex : exB K = true) (c : He.SaysD faL fnL K) : SubF K mg C.sub := by
  have key : ∀ e ∈ subC, (bErr.contains e.1 = true ∨ e.1 ∈ defN ++ clsN ++ refN) ∧ (bErr.contains e.2.1 = true ∨ e.2.1 ∈ defN ++ clsN ++ refN) := by decide
  refine subB_ok (ex_of ex (subB K bErr subC) (by simp [exL])) (fun e he x hx hb => ?_) (fun x hx => ⟨?_, ?_, ?_⟩)
  · obtain ⟨k1, k2⟩ := key e he
    rcases hx with rfl | rfl
    · exact hm_of X G c (k1.resolve_left (by rw [hb]; decide))
    · exact hm_of X G c (k2.resolve_left (by rw [hb]; decide))
  · exact He.free_ok X G (He.SaysD.facts c (List.mem_append_left _ (List.mem_append_left _ (List.mem_append_left _ (List.mem_map.mpr ⟨x, List.mem_append_right _ hx, rfl⟩)))))
  · have : ∀ x ∈ bErr, bootBuiltins (Str.ofString x) = some (.type x) := by decide +kernel
    exact this x hx
  · have : ∀ x ∈ bErr, Str.ofString x ≠ "__name__" := by decide +kernel
    exact this x hx
theorem xfld_of (X : K.In h) (G : h.Ns mainGlobals mg) (ex : exB K = true) (c : He.SaysD faL fnL K) : ∀ t f A, mg (Str.ofString t) = some (.ref A) → C.xfld t f = true → PySem.W.findIn K (.ref A) (Str.ofString f) = some none := by
  intro t f A hA e
  have m : (t, f) ∈ xfldC := by simpa [C] using e
  simp only [xfldC, List.mem_cons, List.not_mem_nil, or_false, Prod.mk.injEq] at m
  rcases m with ⟨rfl, rfl⟩
  · rw [hm_of X G c (n := "NoTokens") (by decide)] at hA
    cases hA
    exact of_decide_eq_true (ex_of ex (noB K (He.ga K "NoTokens") "place") (by simp [exL]))
end
/-- the law's promise -/
def spL (K : PySem.W.Frag) : Sp := fun vs H Q _ => ∀ mg, spOf K mg 1 pr_law vs H Q fun _ _ _ => False
theorem facts {P : Program} {w : World} {K : PySem.W.Frag} {h : Heap} {mg : Str → Option Value} {f : Addr} (X : K.In h) (G : h.Ns mainGlobals mg) (hfa : mg (Str.ofString "law") = some (.ref f)) (cd : He.SaysD faL fnL K) (ex : exB K = true) (tb : tsL.map (fun t => He.dicW K (t.1 K)) = tsL.map fun t => some (He.keysIn w.params t.2)) :
    ∃ fd : FuncData, (∀ (s : Shared) (v : Value), BindsTo s fd ⟨[v], []⟩ [("_law_script", v)]) ∧ ∀ base : Heap, K.In base → base.Ns mainGlobals mg → FnOk P w K mg base CX0 10 f fd ["_law_script"] (spL K) := by
  have B := blt_of X G cd
  have GL := glo_of X G cd ex
  have DC := dic_of' X G ex cd tb
  have FD := fld_of X G cd
  have CL := cls_of X G ex cd
  have IS := isi_of X G ex cd
  obtain ⟨e__law_is_word, F__law_is_word⟩ := cd.def_ 0 (d := d__law_is_word) rfl
  obtain ⟨e__law_is_name, F__law_is_name⟩ := cd.def_ 1 (d := d__law_is_name) rfl
  obtain ⟨e__law_is_token, F__law_is_token⟩ := cd.def_ 2 (d := d__law_is_token) rfl
  obtain ⟨e__law_amiss, F__law_amiss⟩ := cd.def_ 3 (d := d__law_amiss) rfl
  obtain ⟨e_is_name, F_is_name⟩ := cd.def_ 4 (d := d_is_name) rfl
  obtain ⟨e_is_word, F_is_word⟩ := cd.def_ 5 (d := d_is_word) rfl
  obtain ⟨e_is_token, F_is_token⟩ := cd.def_ 6 (d := d_is_token) rfl
  obtain ⟨e_first_wrong, F_first_wrong⟩ := cd.def_ 7 (d := d_first_wrong) rfl
  obtain ⟨e_check_tokens, F_check_tokens⟩ := cd.def_ 8 (d := d_check_tokens) rfl
  obtain ⟨e_show_tokens, F_show_tokens⟩ := cd.def_ 9 (d := d_show_tokens) rfl
  obtain ⟨e_words_in, F_words_in⟩ := cd.def_ 10 (d := d_words_in) rfl
  obtain ⟨e_read_tokens, F_read_tokens⟩ := cd.def_ 11 (d := d_read_tokens) rfl
  obtain ⟨e__law_sort, F__law_sort⟩ := cd.def_ 12 (d := d__law_sort) rfl
  obtain ⟨e__law_told, F__law_told⟩ := cd.def_ 13 (d := d__law_told) rfl
  obtain ⟨e__law_read_right, F__law_read_right⟩ := cd.def_ 14 (d := d__law_read_right) rfl
  obtain ⟨e_Shape___init__, F_Shape___init__⟩ := cd.def_ 15 (d := d_Shape___init__) rfl
  obtain ⟨e_Shape_is_open, F_Shape_is_open⟩ := cd.def_ 16 (d := d_Shape_is_open) rfl
  obtain ⟨e_first_amiss, F_first_amiss⟩ := cd.def_ 17 (d := d_first_amiss) rfl
  obtain ⟨e_Text___init__, F_Text___init__⟩ := cd.def_ 18 (d := d_Text___init__) rfl
  obtain ⟨e__law_kinds_right, F__law_kinds_right⟩ := cd.def_ 19 (d := d__law_kinds_right) rfl
  obtain ⟨e__law_cell, F__law_cell⟩ := cd.def_ 20 (d := d__law_cell) rfl
  obtain ⟨e__law_purse, F__law_purse⟩ := cd.def_ 21 (d := d__law_purse) rfl
  obtain ⟨e__law_pick, F__law_pick⟩ := cd.def_ 22 (d := d__law_pick) rfl
  obtain ⟨e__law_names, F__law_names⟩ := cd.def_ 23 (d := d__law_names) rfl
  obtain ⟨e__law_one_word, F__law_one_word⟩ := cd.def_ 24 (d := d__law_one_word) rfl
  obtain ⟨e__law_tokens, F__law_tokens⟩ := cd.def_ 25 (d := d__law_tokens) rfl
  obtain ⟨e__law_with_note, F__law_with_note⟩ := cd.def_ 26 (d := d__law_with_note) rfl
  obtain ⟨e__law_shown_right, F__law_shown_right⟩ := cd.def_ 27 (d := d__law_shown_right) rfl
  obtain ⟨e__law_odd, F__law_odd⟩ := cd.def_ 28 (d := d__law_odd) rfl
  obtain ⟨e__law_bent, F__law_bent⟩ := cd.def_ 29 (d := d__law_bent) rfl
  obtain ⟨e_law, F_law⟩ := cd.def_ 30 (d := d_law) rfl
  obtain ⟨e_NoTokens___init__, F_NoTokens___init__⟩ := cd.def_ 31 (d := d_NoTokens___init__) rfl
  have e := hfa.symm.trans (hm_of X G cd (n := "law") (by decide))
  cases e
  refine ⟨e_law, fun s v => FunD.bindsA (ps := ["_law_script"]) F_law (fun _ _ _ _ _ _ us hl => match us, hl with | [_], _ => rfl) s [v] rfl, fun base _ _ => ?_⟩
  have SB := sub_of X G ex cd
  have XF := xfld_of X G ex cd
  have R_NoTokens : RaiseF P w K mg base "NoTokens" ["place"] :=
    raise_of (B := "TongueError") F_NoTokens___init__ (hm_of X G cd (by decide)) (hm_of X G cd (by decide)) (ex_of ex (xcB K (He.ga K "NoTokens")) (by simp [exL])) (ex_of ex (oexB K (He.ga K "NoTokens")) (by simp [exL])) (ex_of ex (iniB K (He.ga K "NoTokens") (He.fAd K d_NoTokens___init__.at_)) (by simp [exL])) (ex_of ex (noB K (He.ga K "NoTokens") "place") (by simp [exL])) (ex_of ex (xbB K (He.ga K "TongueError")) (by simp [exL]))
      sc_NoTokens___init__ (by decide +kernel) (by decide +kernel) (fun _ _ _ _ _ _ us hl => match us, hl with | [_, _], _ => rfl)
  have EX : ∀ f ns, C.exn f = some ns → RaiseF P w K mg base f ns := by
    intro f ns e
    have m := lookup_mem (show exnC.lookup f = some ns from e)
    simp only [exnC, List.mem_cons, List.not_mem_nil, or_false, Prod.mk.injEq] at m
    rcases m with ⟨rfl, rfl⟩
    · exact R_NoTokens
  have P__law_is_word : Prm P w K mg base C f__law_is_word 2 := by
    refine ⟨B, GL, DC, fun _ g s hp hne hnt => ?_, fun g n hp a => ?_, SB, fun f ns e => ⟨by decide, EX f ns e⟩, XF⟩
    · simp only [f__law_is_word, List.mem_cons, List.not_mem_nil, or_false, Prod.mk.injEq] at hp
    · simp only [f__law_is_word, List.mem_cons, List.not_mem_nil, or_false, Prod.mk.injEq, CS.ht.injEq, reduceCtorEq, and_false, or_false, false_or] at hp
  have I__law_is_word : PrI P w K mg base C f__law_is_word 2 := by
    refine ⟨FD, IS, fun _ t g n hp => ?_⟩
    simp only [f__law_is_word, List.mem_cons, List.not_mem_nil, or_false, Prod.mk.injEq, CS.me.injEq, reduceCtorEq, and_false, false_and, or_false, false_or] at hp
  have o__law_is_word : FnOk P w K mg base (L2N.CX P w) 3 (He.fAd K d__law_is_word.at_) e__law_is_word ["_law_matter"] (spOf K mg 1 pr_is_word) := fn_okF F__law_is_word sc__law_is_word P__law_is_word I__law_is_word ck__law_is_word (w_l_is_word ltkC)
  have hm__law_is_word : mg (Str.ofString "_law_is_word") = some (.ref (He.fAd K d__law_is_word.at_)) := hm_of X G cd (by decide)
  have ff__law_is_word_0 : FnF P w K mg base 3 "_law_is_word" (CS.pl 1).n ((CS.pl 1).ks.map Str.ofString) (CS.pl 1).arr (C.call "_law_is_word") := by
    rw [C__law_is_word]
    exact ff_pl (ps := ["_law_matter"]) F__law_is_word hm__law_is_word (fun _ _ _ _ _ _ us hl => match us, hl with | [_], _ => rfl) o__law_is_word
  have P__law_is_name : Prm P w K mg base C f__law_is_name 2 := by
    refine ⟨B, GL, DC, fun _ g s hp hne hnt => ?_, fun g n hp a => ?_, SB, fun f ns e => ⟨by decide, EX f ns e⟩, XF⟩
    · simp only [f__law_is_name, List.mem_cons, List.not_mem_nil, or_false, Prod.mk.injEq] at hp
    · simp only [f__law_is_name, List.mem_cons, List.not_mem_nil, or_false, Prod.mk.injEq, CS.ht.injEq, reduceCtorEq, and_false, or_false, false_or] at hp
  have I__law_is_name : PrI P w K mg base C f__law_is_name 2 := by
    refine ⟨FD, IS, fun _ t g n hp => ?_⟩
    simp only [f__law_is_name, List.mem_cons, List.not_mem_nil, or_false, Prod.mk.injEq, CS.me.injEq, reduceCtorEq, and_false, false_and, or_false, false_or] at hp
  have o__law_is_name : FnOk P w K mg base (L2N.CX P w) 3 (He.fAd K d__law_is_name.at_) e__law_is_name ["_law_matter"] (spOf K mg 1 pr_is_name) := fn_okF F__law_is_name sc__law_is_name P__law_is_name I__law_is_name ck__law_is_name (w_l_is_name ltkC)
  have hm__law_is_name : mg (Str.ofString "_law_is_name") = some (.ref (He.fAd K d__law_is_name.at_)) := hm_of X G cd (by decide)
  have ff__law_is_name_0 : FnF P w K mg base 3 "_law_is_name" (CS.pl 1).n ((CS.pl 1).ks.map Str.ofString) (CS.pl 1).arr (C.call "_law_is_name") := by
    rw [C__law_is_name]
    exact ff_pl (ps := ["_law_matter"]) F__law_is_name hm__law_is_name (fun _ _ _ _ _ _ us hl => match us, hl with | [_], _ => rfl) o__law_is_name
  have P__law_is_token : Prm P w K mg base C f__law_is_token 3 := by
    refine ⟨B, GL, DC, fun _ g s hp hne hnt => ?_, fun g n hp a => ?_, SB, fun f ns e => ⟨by decide, EX f ns e⟩, XF⟩
    · simp only [f__law_is_token, List.mem_cons, List.not_mem_nil, or_false, Prod.mk.injEq] at hp
      rcases hp with ⟨rfl, rfl⟩ | ⟨rfl, rfl⟩
      · exact ff__law_is_word_0.mono (by decide)
      · exact ff__law_is_name_0.mono (by decide)
    · simp only [f__law_is_token, List.mem_cons, List.not_mem_nil, or_false, Prod.mk.injEq, CS.ht.injEq, reduceCtorEq, and_false, or_false, false_or] at hp
  have I__law_is_token : PrI P w K mg base C f__law_is_token 3 := by
    refine ⟨FD, IS, fun _ t g n hp => ?_⟩
    simp only [f__law_is_token, List.mem_cons, List.not_mem_nil, or_false, Prod.mk.injEq, CS.me.injEq, reduceCtorEq, and_false, false_and, or_false, false_or] at hp
  have o__law_is_token : FnOk P w K mg base (L2N.CX P w) 4 (He.fAd K d__law_is_token.at_) e__law_is_token ["_law_matter"] (spOf K mg 1 pr_is_token) := fn_okF F__law_is_token sc__law_is_token P__law_is_token I__law_is_token ck__law_is_token (w_l_is_token ltkC)
  have hm__law_is_token : mg (Str.ofString "_law_is_token") = some (.ref (He.fAd K d__law_is_token.at_)) := hm_of X G cd (by decide)
  have ff__law_is_token_0 : FnF P w K mg base 4 "_law_is_token" (CS.pl 1).n ((CS.pl 1).ks.map Str.ofString) (CS.pl 1).arr (C.call "_law_is_token") := by
    rw [C__law_is_token]
    exact ff_pl (ps := ["_law_matter"]) F__law_is_token hm__law_is_token (fun _ _ _ _ _ _ us hl => match us, hl with | [_], _ => rfl) o__law_is_token
  have P__law_amiss : Prm P w K mg base C f__law_amiss 4 := by
    refine ⟨B, GL, DC, fun _ g s hp hne hnt => ?_, fun g n hp a => ?_, SB, fun f ns e => ⟨by decide, EX f ns e⟩, XF⟩
    · simp only [f__law_amiss, List.mem_cons, List.not_mem_nil, or_false, Prod.mk.injEq] at hp
      rcases hp with ⟨rfl, rfl⟩
      · exact ff__law_is_token_0.mono (by decide)
    · simp only [f__law_amiss, List.mem_cons, List.not_mem_nil, or_false, Prod.mk.injEq, CS.ht.injEq, reduceCtorEq, and_false, or_false, false_or] at hp
  have I__law_amiss : PrI P w K mg base C f__law_amiss 4 := by
    refine ⟨FD, IS, fun _ t g n hp => ?_⟩
    simp only [f__law_amiss, List.mem_cons, List.not_mem_nil, or_false, Prod.mk.injEq, CS.me.injEq, reduceCtorEq, and_false, false_and, or_false, false_or] at hp
  have o__law_amiss : FnOk P w K mg base (L2N.CX P w) 5 (He.fAd K d__law_amiss.at_) e__law_amiss ["_law_some"] (spOf K mg 1 pr_l_amiss) := fn_okF F__law_amiss sc__law_amiss P__law_amiss I__law_amiss ck__law_amiss (w_l_amiss ltkC)
  have hm__law_amiss : mg (Str.ofString "_law_amiss") = some (.ref (He.fAd K d__law_amiss.at_)) := hm_of X G cd (by decide)
  have ff__law_amiss_0 : FnF P w K mg base 5 "_law_amiss" (CS.pl 1).n ((CS.pl 1).ks.map Str.ofString) (CS.pl 1).arr (C.call "_law_amiss") := by
    rw [C__law_amiss]
    exact ff_pl (ps := ["_law_some"]) F__law_amiss hm__law_amiss (fun _ _ _ _ _ _ us hl => match us, hl with | [_], _ => rfl) o__law_amiss
  have P_is_name : Prm P w K mg base C f_is_name 2 := by
    refine ⟨B, GL, DC, fun _ g s hp hne hnt => ?_, fun g n hp a => ?_, SB, fun f ns e => ⟨by decide, EX f ns e⟩, XF⟩
    · simp only [f_is_name, List.mem_cons, List.not_mem_nil, or_false, Prod.mk.injEq] at hp
    · simp only [f_is_name, List.mem_cons, List.not_mem_nil, or_false, Prod.mk.injEq, CS.ht.injEq, reduceCtorEq, and_false, or_false, false_or] at hp
  have I_is_name : PrI P w K mg base C f_is_name 2 := by
    refine ⟨FD, IS, fun _ t g n hp => ?_⟩
    simp only [f_is_name, List.mem_cons, List.not_mem_nil, or_false, Prod.mk.injEq, CS.me.injEq, reduceCtorEq, and_false, false_and, or_false, false_or] at hp
  have o_is_name : FnOk P w K mg base (L2N.CX P w) 3 (He.fAd K d_is_name.at_) e_is_name ["thing"] (spOf K mg 1 pr_is_name) := fn_okF F_is_name sc_is_name P_is_name I_is_name ck_is_name (w_is_name tokC)
  have hm_is_name : mg (Str.ofString "is_name") = some (.ref (He.fAd K d_is_name.at_)) := hm_of X G cd (by decide)
  have ff_is_name_0 : FnF P w K mg base 3 "is_name" (CS.pl 1).n ((CS.pl 1).ks.map Str.ofString) (CS.pl 1).arr (C.call "is_name") := by
    rw [C_is_name]
    exact ff_pl (ps := ["thing"]) F_is_name hm_is_name (fun _ _ _ _ _ _ us hl => match us, hl with | [_], _ => rfl) o_is_name
  have P_is_word : Prm P w K mg base C f_is_word 2 := by
    refine ⟨B, GL, DC, fun _ g s hp hne hnt => ?_, fun g n hp a => ?_, SB, fun f ns e => ⟨by decide, EX f ns e⟩, XF⟩
    · simp only [f_is_word, List.mem_cons, List.not_mem_nil, or_false, Prod.mk.injEq] at hp
    · simp only [f_is_word, List.mem_cons, List.not_mem_nil, or_false, Prod.mk.injEq, CS.ht.injEq, reduceCtorEq, and_false, or_false, false_or] at hp
  have I_is_word : PrI P w K mg base C f_is_word 2 := by
    refine ⟨FD, IS, fun _ t g n hp => ?_⟩
    simp only [f_is_word, List.mem_cons, List.not_mem_nil, or_false, Prod.mk.injEq, CS.me.injEq, reduceCtorEq, and_false, false_and, or_false, false_or] at hp
  have o_is_word : FnOk P w K mg base (L2N.CX P w) 3 (He.fAd K d_is_word.at_) e_is_word ["thing"] (spOf K mg 1 pr_is_word) := fn_okF F_is_word sc_is_word P_is_word I_is_word ck_is_word (w_is_word tokC)
  have hm_is_word : mg (Str.ofString "is_word") = some (.ref (He.fAd K d_is_word.at_)) := hm_of X G cd (by decide)
  have ff_is_word_0 : FnF P w K mg base 3 "is_word" (CS.pl 1).n ((CS.pl 1).ks.map Str.ofString) (CS.pl 1).arr (C.call "is_word") := by
    rw [C_is_word]
    exact ff_pl (ps := ["thing"]) F_is_word hm_is_word (fun _ _ _ _ _ _ us hl => match us, hl with | [_], _ => rfl) o_is_word
  have P_is_token : Prm P w K mg base C f_is_token 3 := by
    refine ⟨B, GL, DC, fun _ g s hp hne hnt => ?_, fun g n hp a => ?_, SB, fun f ns e => ⟨by decide, EX f ns e⟩, XF⟩
    · simp only [f_is_token, List.mem_cons, List.not_mem_nil, or_false, Prod.mk.injEq] at hp
      rcases hp with ⟨rfl, rfl⟩ | ⟨rfl, rfl⟩
      · exact ff_is_name_0.mono (by decide)
      · exact ff_is_word_0.mono (by decide)
    · simp only [f_is_token, List.mem_cons, List.not_mem_nil, or_false, Prod.mk.injEq, CS.ht.injEq, reduceCtorEq, and_false, or_false, false_or] at hp
  have I_is_token : PrI P w K mg base C f_is_token 3 := by
    refine ⟨FD, IS, fun _ t g n hp => ?_⟩
    simp only [f_is_token, List.mem_cons, List.not_mem_nil, or_false, Prod.mk.injEq, CS.me.injEq, reduceCtorEq, and_false, false_and, or_false, false_or] at hp
  have o_is_token : FnOk P w K mg base (L2N.CX P w) 4 (He.fAd K d_is_token.at_) e_is_token ["thing"] (spOf K mg 1 pr_is_token) := fn_okF F_is_token sc_is_token P_is_token I_is_token ck_is_token (w_is_token tokC)
  have hm_is_token : mg (Str.ofString "is_token") = some (.ref (He.fAd K d_is_token.at_)) := hm_of X G cd (by decide)
  have ff_is_token_0 : FnF P w K mg base 4 "is_token" (CS.pl 1).n ((CS.pl 1).ks.map Str.ofString) (CS.pl 1).arr (C.call "is_token") := by
    rw [C_is_token]
    exact ff_pl (ps := ["thing"]) F_is_token hm_is_token (fun _ _ _ _ _ _ us hl => match us, hl with | [_], _ => rfl) o_is_token
  have P_first_wrong : Prm P w K mg base C f_first_wrong 4 := by
    refine ⟨B, GL, DC, fun _ g s hp hne hnt => ?_, fun g n hp a => ?_, SB, fun f ns e => ⟨by decide, EX f ns e⟩, XF⟩
    · simp only [f_first_wrong, List.mem_cons, List.not_mem_nil, or_false, Prod.mk.injEq] at hp
      rcases hp with ⟨rfl, rfl⟩
      · exact ff_is_token_0.mono (by decide)
    · simp only [f_first_wrong, List.mem_cons, List.not_mem_nil, or_false, Prod.mk.injEq, CS.ht.injEq, reduceCtorEq, and_false, or_false, false_or] at hp
  have I_first_wrong : PrI P w K mg base C f_first_wrong 4 := by
    refine ⟨FD, IS, fun _ t g n hp => ?_⟩
    simp only [f_first_wrong, List.mem_cons, List.not_mem_nil, or_false, Prod.mk.injEq, CS.me.injEq, reduceCtorEq, and_false, false_and, or_false, false_or] at hp
  have o_first_wrong : FnOk P w K mg base (L2N.CX P w) 5 (He.fAd K d_first_wrong.at_) e_first_wrong ["things"] (spOf K mg 1 pr_first_wrong) := fn_okF F_first_wrong sc_first_wrong P_first_wrong I_first_wrong ck_first_wrong (w_first_wrong tokC)
  have hm_first_wrong : mg (Str.ofString "first_wrong") = some (.ref (He.fAd K d_first_wrong.at_)) := hm_of X G cd (by decide)
  have ff_first_wrong_0 : FnF P w K mg base 5 "first_wrong" (CS.pl 1).n ((CS.pl 1).ks.map Str.ofString) (CS.pl 1).arr (C.call "first_wrong") := by
    rw [C_first_wrong]
    exact ff_pl (ps := ["things"]) F_first_wrong hm_first_wrong (fun _ _ _ _ _ _ us hl => match us, hl with | [_], _ => rfl) o_first_wrong
  have P_check_tokens : Prm P w K mg base C f_check_tokens 5 := by
    refine ⟨B, GL, DC, fun _ g s hp hne hnt => ?_, fun g n hp a => ?_, SB, fun f ns e => ⟨by decide, EX f ns e⟩, XF⟩
    · simp only [f_check_tokens, List.mem_cons, List.not_mem_nil, or_false, Prod.mk.injEq] at hp
      rcases hp with ⟨rfl, rfl⟩
      · exact ff_first_wrong_0.mono (by decide)
    · simp only [f_check_tokens, List.mem_cons, List.not_mem_nil, or_false, Prod.mk.injEq, CS.ht.injEq, reduceCtorEq, and_false, or_false, false_or] at hp
  have I_check_tokens : PrI P w K mg base C f_check_tokens 5 := by
    refine ⟨FD, IS, fun _ t g n hp => ?_⟩
    simp only [f_check_tokens, List.mem_cons, List.not_mem_nil, or_false, Prod.mk.injEq, CS.me.injEq, reduceCtorEq, and_false, false_and, or_false, false_or] at hp
  have o_check_tokens : FnOk P w K mg base (L2N.CX P w) 6 (He.fAd K d_check_tokens.at_) e_check_tokens ["thing"] (spOf K mg 1 pr_check_tokens) := fn_okF F_check_tokens sc_check_tokens P_check_tokens I_check_tokens ck_check_tokens w_check_tokens
  have hm_check_tokens : mg (Str.ofString "check_tokens") = some (.ref (He.fAd K d_check_tokens.at_)) := hm_of X G cd (by decide)
  have ff_check_tokens_0 : FnF P w K mg base 6 "check_tokens" (CS.pl 1).n ((CS.pl 1).ks.map Str.ofString) (CS.pl 1).arr (C.call "check_tokens") := by
    rw [C_check_tokens]
    exact ff_pl (ps := ["thing"]) F_check_tokens hm_check_tokens (fun _ _ _ _ _ _ us hl => match us, hl with | [_], _ => rfl) o_check_tokens
  have P_show_tokens : Prm P w K mg base C f_show_tokens 6 := by
    refine ⟨B, GL, DC, fun _ g s hp hne hnt => ?_, fun g n hp a => ?_, SB, fun f ns e => ⟨by decide, EX f ns e⟩, XF⟩
    · simp only [f_show_tokens, List.mem_cons, List.not_mem_nil, or_false, Prod.mk.injEq] at hp
      rcases hp with ⟨rfl, rfl⟩
      · exact ff_check_tokens_0.mono (by decide)
    · simp only [f_show_tokens, List.mem_cons, List.not_mem_nil, or_false, Prod.mk.injEq, CS.ht.injEq, reduceCtorEq, and_false, or_false, false_or] at hp
  have I_show_tokens : PrI P w K mg base C f_show_tokens 6 := by
    refine ⟨FD, IS, fun _ t g n hp => ?_⟩
    simp only [f_show_tokens, List.mem_cons, List.not_mem_nil, or_false, Prod.mk.injEq, CS.me.injEq, reduceCtorEq, and_false, false_and, or_false, false_or] at hp
  have o_show_tokens : FnOk P w K mg base (L2N.CX P w) 7 (He.fAd K d_show_tokens.at_) e_show_tokens ["tokens"] (spOf K mg 1 pr_show_tokens) := fn_okF F_show_tokens sc_show_tokens P_show_tokens I_show_tokens ck_show_tokens w_show_tokens
  have hm_show_tokens : mg (Str.ofString "show_tokens") = some (.ref (He.fAd K d_show_tokens.at_)) := hm_of X G cd (by decide)
  have ff_show_tokens_0 : FnF P w K mg base 7 "show_tokens" (CS.pl 1).n ((CS.pl 1).ks.map Str.ofString) (CS.pl 1).arr (C.call "show_tokens") := by
    rw [C_show_tokens]
    exact ff_pl (ps := ["tokens"]) F_show_tokens hm_show_tokens (fun _ _ _ _ _ _ us hl => match us, hl with | [_], _ => rfl) o_show_tokens
  have ff_show_tokens_1 : FnF P w K mg base 7 "show_tokens" (⟨0, ["tokens"], [.k 0]⟩ : Sg).n ((⟨0, ["tokens"], [.k 0]⟩ : Sg).ks.map Str.ofString) (CS.kw (⟨0, ["tokens"], [.k 0]⟩ : Sg)).arr (C.call "show_tokens") := by
    rw [C_show_tokens]
    have kb := kb1 (ps := ["tokens"]) (n := 0) (ks := (⟨0, ["tokens"], [.k 0]⟩ : Sg).ks.map Str.ofString) F_show_tokens (fun us ws => putG (⟨0, ["tokens"], [.k 0]⟩ : Sg).ar us [] ws) (fun vs zs => putG (⟨0, ["tokens"], [.k 0]⟩ : Sg).ar vs [] zs) (fun r1 r2 => putG_vals _ r1 .nil r2) (fun _ _ _ _ _ _ us ws h1 h2 => match us, ws, h1, h2 with | [], [_], _, _ => rfl)
    exact ff_sg (⟨0, ["tokens"], [.k 0]⟩ : Sg) F_show_tokens.kp hm_show_tokens o_show_tokens kb (by decide) rfl (fun _ _ => rfl)
  have P_words_in : Prm P w K mg base C f_words_in 2 := by
    refine ⟨B, GL, DC, fun _ g s hp hne hnt => ?_, fun g n hp a => ?_, SB, fun f ns e => ⟨by decide, EX f ns e⟩, XF⟩
    · simp only [f_words_in, List.mem_cons, List.not_mem_nil, or_false, Prod.mk.injEq] at hp
    · simp only [f_words_in, List.mem_cons, List.not_mem_nil, or_false, Prod.mk.injEq, CS.ht.injEq, reduceCtorEq, and_false, or_false, false_or] at hp
  have I_words_in : PrI P w K mg base C f_words_in 2 := by
    refine ⟨FD, IS, fun _ t g n hp => ?_⟩
    simp only [f_words_in, List.mem_cons, List.not_mem_nil, or_false, Prod.mk.injEq, CS.me.injEq, reduceCtorEq, and_false, false_and, or_false, false_or] at hp
  have o_words_in : FnOk P w K mg base (L2N.CX P w) 3 (He.fAd K d_words_in.at_) e_words_in ["text"] (spOf K mg 1 pr_words_in) := fn_okF F_words_in sc_words_in P_words_in I_words_in ck_words_in w_words_in
  have hm_words_in : mg (Str.ofString "words_in") = some (.ref (He.fAd K d_words_in.at_)) := hm_of X G cd (by decide)
  have ff_words_in_0 : FnF P w K mg base 3 "words_in" (CS.pl 1).n ((CS.pl 1).ks.map Str.ofString) (CS.pl 1).arr (C.call "words_in") := by
    rw [C_words_in]
    exact ff_pl (ps := ["text"]) F_words_in hm_words_in (fun _ _ _ _ _ _ us hl => match us, hl with | [_], _ => rfl) o_words_in
  have P_read_tokens : Prm P w K mg base C f_read_tokens 6 := by
    refine ⟨B, GL, DC, fun _ g s hp hne hnt => ?_, fun g n hp a => ?_, SB, fun f ns e => ⟨by decide, EX f ns e⟩, XF⟩
    · simp only [f_read_tokens, List.mem_cons, List.not_mem_nil, or_false, Prod.mk.injEq] at hp
      rcases hp with ⟨rfl, rfl⟩ | ⟨rfl, rfl⟩
      · exact ff_words_in_0.mono (by decide)
      · exact ff_check_tokens_0.mono (by decide)
    · simp only [f_read_tokens, List.mem_cons, List.not_mem_nil, or_false, Prod.mk.injEq, CS.ht.injEq, reduceCtorEq, and_false, or_false, false_or] at hp
  have I_read_tokens : PrI P w K mg base C f_read_tokens 6 := by
    refine ⟨FD, IS, fun _ t g n hp => ?_⟩
    simp only [f_read_tokens, List.mem_cons, List.not_mem_nil, or_false, Prod.mk.injEq, CS.me.injEq, reduceCtorEq, and_false, false_and, or_false, false_or] at hp
  have o_read_tokens : FnOk P w K mg base (L2N.CX P w) 7 (He.fAd K d_read_tokens.at_) e_read_tokens ["text"] (spOf K mg 1 pr_read_tokens) := fn_okF F_read_tokens sc_read_tokens P_read_tokens I_read_tokens ck_read_tokens w_read_tokens
  have hm_read_tokens : mg (Str.ofString "read_tokens") = some (.ref (He.fAd K d_read_tokens.at_)) := hm_of X G cd (by decide)
  have ff_read_tokens_0 : FnF P w K mg base 7 "read_tokens" (CS.pl 1).n ((CS.pl 1).ks.map Str.ofString) (CS.pl 1).arr (C.call "read_tokens") := by
    rw [C_read_tokens]
    exact ff_pl (ps := ["text"]) F_read_tokens hm_read_tokens (fun _ _ _ _ _ _ us hl => match us, hl with | [_], _ => rfl) o_read_tokens
  have ff_read_tokens_1 : FnF P w K mg base 7 "read_tokens" (⟨0, ["text"], [.k 0]⟩ : Sg).n ((⟨0, ["text"], [.k 0]⟩ : Sg).ks.map Str.ofString) (CS.kw (⟨0, ["text"], [.k 0]⟩ : Sg)).arr (C.call "read_tokens") := by
    rw [C_read_tokens]
    have kb := kb1 (ps := ["text"]) (n := 0) (ks := (⟨0, ["text"], [.k 0]⟩ : Sg).ks.map Str.ofString) F_read_tokens (fun us ws => putG (⟨0, ["text"], [.k 0]⟩ : Sg).ar us [] ws) (fun vs zs => putG (⟨0, ["text"], [.k 0]⟩ : Sg).ar vs [] zs) (fun r1 r2 => putG_vals _ r1 .nil r2) (fun _ _ _ _ _ _ us ws h1 h2 => match us, ws, h1, h2 with | [], [_], _, _ => rfl)
    exact ff_sg (⟨0, ["text"], [.k 0]⟩ : Sg) F_read_tokens.kp hm_read_tokens o_read_tokens kb (by decide) rfl (fun _ _ => rfl)
  have P__law_sort : Prm P w K mg base C f__law_sort 2 := by
    refine ⟨B, GL, DC, fun _ g s hp hne hnt => ?_, fun g n hp a => ?_, SB, fun f ns e => ⟨by decide, EX f ns e⟩, XF⟩
    · simp only [f__law_sort, List.mem_cons, List.not_mem_nil, or_false, Prod.mk.injEq] at hp
    · simp only [f__law_sort, List.mem_cons, List.not_mem_nil, or_false, Prod.mk.injEq, CS.ht.injEq, reduceCtorEq, and_false, or_false, false_or] at hp
  have I__law_sort : PrI P w K mg base C f__law_sort 2 := by
    refine ⟨FD, IS, fun _ t g n hp => ?_⟩
    simp only [f__law_sort, List.mem_cons, List.not_mem_nil, or_false, Prod.mk.injEq, CS.me.injEq, reduceCtorEq, and_false, false_and, or_false, false_or] at hp
  have hm__law_sort : mg (Str.ofString "_law_sort") = some (.ref (He.fAd K d__law_sort.at_)) := hm_of X G cd (by decide)
  have ff__law_sort_0 : ∀ a, FnX P w K mg base 3 a "_law_sort" 1 (C.callh a "_law_sort") := by
    intro a
    rw [H__law_sort]
    exact fnx_of (prom := pr_law_sort) (ps := ["_law_e"]) F__law_sort hm__law_sort (fun _ _ _ _ _ _ us hl => match us, hl with | [_], _ => rfl) sc__law_sort P__law_sort I__law_sort ck__law_sort w_law_sort a
  have P__law_told : Prm P w K mg base C f__law_told 7 := by
    refine ⟨B, GL, DC, fun _ g s hp hne hnt => ?_, fun g n hp a => ?_, SB, fun f ns e => ⟨by decide, EX f ns e⟩, XF⟩
    · simp only [f__law_told, List.mem_cons, List.not_mem_nil, or_false, Prod.mk.injEq] at hp
      rcases hp with ⟨rfl, rfl⟩ | ⟨rfl, rfl⟩ | ⟨rfl, rfl⟩ | ⟨rfl, rfl⟩ | ⟨rfl, rfl⟩
      · exact ff_show_tokens_0.mono (by decide)
      · exact ff_show_tokens_1.mono (by decide)
      · exact ff_read_tokens_0.mono (by decide)
      · exact ff_read_tokens_1.mono (by decide)
      · exact absurd rfl (hnt _)
    · simp only [f__law_told, List.mem_cons, List.not_mem_nil, or_false, Prod.mk.injEq, CS.ht.injEq, reduceCtorEq, and_false, or_false, false_or] at hp
      rcases hp with ⟨rfl, rfl⟩
      · exact (ff__law_sort_0 a).mono (by decide)
  have I__law_told : PrI P w K mg base C f__law_told 7 := by
    refine ⟨FD, IS, fun _ t g n hp => ?_⟩
    simp only [f__law_told, List.mem_cons, List.not_mem_nil, or_false, Prod.mk.injEq, CS.me.injEq, reduceCtorEq, and_false, false_and, or_false, false_or] at hp
  have o__law_told : FnOk P w K mg base (L2N.CX P w) 8 (He.fAd K d__law_told.at_) e__law_told ["_law_style", "_law_matter"] (spOf K mg 2 pr_law_told) := fn_okF F__law_told sc__law_told P__law_told I__law_told ck__law_told w_law_told
  have hm__law_told : mg (Str.ofString "_law_told") = some (.ref (He.fAd K d__law_told.at_)) := hm_of X G cd (by decide)
  have ff__law_told_0 : FnF P w K mg base 8 "_law_told" (CS.pl 2).n ((CS.pl 2).ks.map Str.ofString) (CS.pl 2).arr (C.call "_law_told") := by
    rw [C__law_told]
    exact ff_pl (ps := ["_law_style", "_law_matter"]) F__law_told hm__law_told (fun _ _ _ _ _ _ us hl => match us, hl with | [_, _], _ => rfl) o__law_told
  have P__law_read_right : Prm P w K mg base C f__law_read_right 8 := by
    refine ⟨B, GL, DC, fun _ g s hp hne hnt => ?_, fun g n hp a => ?_, SB, fun f ns e => ⟨by decide, EX f ns e⟩, XF⟩
    · simp only [f__law_read_right, List.mem_cons, List.not_mem_nil, or_false, Prod.mk.injEq] at hp
      rcases hp with ⟨rfl, rfl⟩ | ⟨rfl, rfl⟩
      · exact ff__law_amiss_0.mono (by decide)
      · exact ff__law_told_0.mono (by decide)
    · simp only [f__law_read_right, List.mem_cons, List.not_mem_nil, or_false, Prod.mk.injEq, CS.ht.injEq, reduceCtorEq, and_false, or_false, false_or] at hp
  have I__law_read_right : PrI P w K mg base C f__law_read_right 8 := by
    refine ⟨FD, IS, fun _ t g n hp => ?_⟩
    simp only [f__law_read_right, List.mem_cons, List.not_mem_nil, or_false, Prod.mk.injEq, CS.me.injEq, reduceCtorEq, and_false, false_and, or_false, false_or] at hp
  have o__law_read_right : FnOk P w K mg base (L2N.CX P w) 9 (He.fAd K d__law_read_right.at_) e__law_read_right ["_law_verse"] (spOf K mg 1 pr_law_read_right) := fn_okF F__law_read_right sc__law_read_right P__law_read_right I__law_read_right ck__law_read_right w_law_read_right
  have hm__law_read_right : mg (Str.ofString "_law_read_right") = some (.ref (He.fAd K d__law_read_right.at_)) := hm_of X G cd (by decide)
  have ff__law_read_right_0 : FnF P w K mg base 9 "_law_read_right" (CS.pl 1).n ((CS.pl 1).ks.map Str.ofString) (CS.pl 1).arr (C.call "_law_read_right") := by
    rw [C__law_read_right]
    exact ff_pl (ps := ["_law_verse"]) F__law_read_right hm__law_read_right (fun _ _ _ _ _ _ us hl => match us, hl with | [_], _ => rfl) o__law_read_right
  have P_Shape___init__ : Prm P w K mg base C f_Shape___init__ 2 := by
    refine ⟨B, GL, DC, fun _ g s hp hne hnt => ?_, fun g n hp a => ?_, SB, fun f ns e => ⟨by decide, EX f ns e⟩, XF⟩
    · simp only [f_Shape___init__, List.mem_cons, List.not_mem_nil, or_false, Prod.mk.injEq] at hp
    · simp only [f_Shape___init__, List.mem_cons, List.not_mem_nil, or_false, Prod.mk.injEq, CS.ht.injEq, reduceCtorEq, and_false, or_false, false_or] at hp
  have I_Shape___init__ : PrI P w K mg base C f_Shape___init__ 2 := by
    refine ⟨FD, IS, fun _ t g n hp => ?_⟩
    simp only [f_Shape___init__, List.mem_cons, List.not_mem_nil, or_false, Prod.mk.injEq, CS.me.injEq, reduceCtorEq, and_false, false_and, or_false, false_or] at hp
  have o_Shape___init__ : FnOk P w K mg base (L2N.CX P w) 3 (He.fAd K d_Shape___init__.at_) e_Shape___init__ ["self"] (spOf K mg 1 pr_Shape___init__) := fn_okF F_Shape___init__ sc_Shape___init__ P_Shape___init__ I_Shape___init__ ck_Shape___init__ (w_Shape_init shpF)
  have ff_Shape_0 : FnF P w K mg base 4 "Shape" (CS.pl 0).n ((CS.pl 0).ks.map Str.ofString) (CS.pl 0).arr (C.call "Shape") := by
    rw [C_Shape]
    exact fc_pl (He.mkr_ok (cf_of cd (f := .mkr "Shape") (by simp [cfL]))) (CL _ (by decide)) F_Shape___init__ rfl (fun _ _ _ _ _ _ us hl => match us, hl with | [_], _ => rfl) o_Shape___init__
  have P_Shape_is_open : Prm P w K mg base C f_Shape_is_open 2 := by
    refine ⟨B, GL, DC, fun _ g s hp hne hnt => ?_, fun g n hp a => ?_, SB, fun f ns e => ⟨by decide, EX f ns e⟩, XF⟩
    · simp only [f_Shape_is_open, List.mem_cons, List.not_mem_nil, or_false, Prod.mk.injEq] at hp
    · simp only [f_Shape_is_open, List.mem_cons, List.not_mem_nil, or_false, Prod.mk.injEq, CS.ht.injEq, reduceCtorEq, and_false, or_false, false_or] at hp
  have I_Shape_is_open : PrI P w K mg base C f_Shape_is_open 2 := by
    refine ⟨FD, IS, fun _ t g n hp => ?_⟩
    simp only [f_Shape_is_open, List.mem_cons, List.not_mem_nil, or_false, Prod.mk.injEq, CS.me.injEq, reduceCtorEq, and_false, false_and, or_false, false_or] at hp
  have o_Shape_is_open : FnOk P w K mg base (L2N.CX P w) 3 (He.fAd K d_Shape_is_open.at_) e_Shape_is_open ["self"] (spOf K mg 1 pr_Shape_is_open) := fn_okF F_Shape_is_open sc_Shape_is_open P_Shape_is_open I_Shape_is_open ck_Shape_is_open (w_Shape_is_open shpF)
  have ff_Shape_is_open_0 : FnM P w K mg base 3 "Shape" "is_open" 0 (CS.pl 0).arr (C.call ("Shape" ++ "." ++ "is_open")) := by
    rw [show "Shape" ++ "." ++ "is_open" = "Shape.is_open" by decide, C_Shape_is_open]
    exact fm_pl (CL _ (by decide)) (He.meth_ok (cf_of cd (f := .meth "Shape" "is_open") (by simp [cfL]))) F_Shape_is_open rfl (fun _ _ _ _ _ _ us hl => match us, hl with | [_], _ => rfl) o_Shape_is_open
  have P_first_amiss : Prm P w K mg base C f_first_amiss 4 := by
    refine ⟨B, GL, DC, fun _ g s hp hne hnt => ?_, fun g n hp a => ?_, SB, fun f ns e => ⟨by decide, EX f ns e⟩, XF⟩
    · simp only [f_first_amiss, List.mem_cons, List.not_mem_nil, or_false, Prod.mk.injEq] at hp
      rcases hp with ⟨rfl, rfl⟩ | ⟨rfl, rfl⟩
      · exact ff_Shape_0.mono (by decide)
      · exact absurd rfl hne
    · simp only [f_first_amiss, List.mem_cons, List.not_mem_nil, or_false, Prod.mk.injEq, CS.ht.injEq, reduceCtorEq, and_false, or_false, false_or] at hp
  have I_first_amiss : PrI P w K mg base C f_first_amiss 4 := by
    refine ⟨FD, IS, fun _ t g n hp => ?_⟩
    simp only [f_first_amiss, List.mem_cons, List.not_mem_nil, or_false, Prod.mk.injEq, CS.me.injEq, reduceCtorEq, and_false, false_and, or_false, false_or] at hp
    rcases hp with ⟨-, rfl, rfl, rfl⟩
    · exact ff_Shape_is_open_0.mono (by decide)
  have o_first_amiss : FnOk P w K mg base (L2N.CX P w) 5 (He.fAd K d_first_amiss.at_) e_first_amiss ["rows"] (spOf K mg 1 pr_first_amiss) := fn_okF F_first_amiss sc_first_amiss P_first_amiss I_first_amiss ck_first_amiss w_first_amiss
  have hm_first_amiss : mg (Str.ofString "first_amiss") = some (.ref (He.fAd K d_first_amiss.at_)) := hm_of X G cd (by decide)
  have ff_first_amiss_0 : FnF P w K mg base 5 "first_amiss" (CS.pl 1).n ((CS.pl 1).ks.map Str.ofString) (CS.pl 1).arr (C.call "first_amiss") := by
    rw [C_first_amiss]
    exact ff_pl (ps := ["rows"]) F_first_amiss hm_first_amiss (fun _ _ _ _ _ _ us hl => match us, hl with | [_], _ => rfl) o_first_amiss
  have P_Text___init__ : Prm P w K mg base C f_Text___init__ 5 := by
    refine ⟨B, GL, DC, fun _ g s hp hne hnt => ?_, fun g n hp a => ?_, SB, fun f ns e => ⟨by decide, EX f ns e⟩, XF⟩
    · simp only [f_Text___init__, List.mem_cons, List.not_mem_nil, or_false, Prod.mk.injEq] at hp
      rcases hp with ⟨rfl, rfl⟩
      · exact ff_first_amiss_0.mono (by decide)
    · simp only [f_Text___init__, List.mem_cons, List.not_mem_nil, or_false, Prod.mk.injEq, CS.ht.injEq, reduceCtorEq, and_false, or_false, false_or] at hp
  have I_Text___init__ : PrI P w K mg base C f_Text___init__ 5 := by
    refine ⟨FD, IS, fun _ t g n hp => ?_⟩
    simp only [f_Text___init__, List.mem_cons, List.not_mem_nil, or_false, Prod.mk.injEq, CS.me.injEq, reduceCtorEq, and_false, false_and, or_false, false_or] at hp
  have o_Text___init__ : FnOk P w K mg base (L2N.CX P w) 6 (He.fAd K d_Text___init__.at_) e_Text___init__ ["self", "rows"] (spOf K mg 2 pr_Text___init__) := fn_okF F_Text___init__ sc_Text___init__ P_Text___init__ I_Text___init__ ck_Text___init__ w_Text___init__
  have ff_Text_0 : FnF P w K mg base 7 "Text" (⟨0, [], [.d (.emp)]⟩ : Sg).n ((⟨0, [], [.d (.emp)]⟩ : Sg).ks.map Str.ofString) (CS.kw (⟨0, [], [.d (.emp)]⟩ : Sg)).arr (C.call "Text") := by
    rw [C_Text]
    obtain ⟨its, kb⟩ := kb3 (ps := ["self", "rows"]) (n := 1) (ks := (⟨0, [], [.d (.emp)]⟩ : Sg).ks.map Str.ofString) F_Text___init__ (fun z => nomatch z) (fun us du ws => putS (⟨0, [], [.d (.emp)]⟩ : Sg).ar us du ws) (fun vs dv zs => putS (⟨0, [], [.d (.emp)]⟩ : Sg).ar vs dv zs) (fun r1 r2 r3 => putS_vals _ r1 r2 r3)
      (fun _ _ _ _ _ _ _ us its ws h1 h0 h2 => match us, its, ws, h1, h0, h2 with | [_], [_], [], _, _, _ => ⟨_, rfl, rfl⟩)
    exact fc_sg (⟨0, [], [.d (.emp)]⟩ : Sg) (He.mkr_ok (cf_of cd (f := .mkr "Text") (by simp [cfL]))) (CL _ (by decide)) o_Text___init__ kb (by decide) rfl (fun F H => ⟨_, _, rfl, empB_ok (ex_of ex (empB K (He.dflAt ("Text", some "__init__") 0 K)) (by simp [exL])) F H, rfl⟩)
  have P__law_kinds_right : Prm P w K mg base C f__law_kinds_right 8 := by
    refine ⟨B, GL, DC, fun _ g s hp hne hnt => ?_, fun g n hp a => ?_, SB, fun f ns e => ⟨by decide, EX f ns e⟩, XF⟩
    · simp only [f__law_kinds_right, List.mem_cons, List.not_mem_nil, or_false, Prod.mk.injEq] at hp
      rcases hp with ⟨rfl, rfl⟩ | ⟨rfl, rfl⟩
      · exact ff_Text_0.mono (by decide)
      · exact ff__law_told_0.mono (by decide)
    · simp only [f__law_kinds_right, List.mem_cons, List.not_mem_nil, or_false, Prod.mk.injEq, CS.ht.injEq, reduceCtorEq, and_false, or_false, false_or] at hp
  have I__law_kinds_right : PrI P w K mg base C f__law_kinds_right 8 := by
    refine ⟨FD, IS, fun _ t g n hp => ?_⟩
    simp only [f__law_kinds_right, List.mem_cons, List.not_mem_nil, or_false, Prod.mk.injEq, CS.me.injEq, reduceCtorEq, and_false, false_and, or_false, false_or] at hp
  have o__law_kinds_right : FnOk P w K mg base (L2N.CX P w) 9 (He.fAd K d__law_kinds_right.at_) e__law_kinds_right [] (spOf K mg 0 pr_law_kinds_right) := fn_okF F__law_kinds_right sc__law_kinds_right P__law_kinds_right I__law_kinds_right ck__law_kinds_right w_law_kinds_right
  have hm__law_kinds_right : mg (Str.ofString "_law_kinds_right") = some (.ref (He.fAd K d__law_kinds_right.at_)) := hm_of X G cd (by decide)
  have ff__law_kinds_right_0 : FnF P w K mg base 9 "_law_kinds_right" (CS.pl 0).n ((CS.pl 0).ks.map Str.ofString) (CS.pl 0).arr (C.call "_law_kinds_right") := by
    rw [C__law_kinds_right]
    exact ff_pl (ps := []) F__law_kinds_right hm__law_kinds_right (fun _ _ _ _ _ _ us hl => match us, hl with | [], _ => rfl) o__law_kinds_right
  have P__law_cell : Prm P w K mg base C f__law_cell 2 := by
    refine ⟨B, GL, DC, fun _ g s hp hne hnt => ?_, fun g n hp a => ?_, SB, fun f ns e => ⟨by decide, EX f ns e⟩, XF⟩
    · simp only [f__law_cell, List.mem_cons, List.not_mem_nil, or_false, Prod.mk.injEq] at hp
    · simp only [f__law_cell, List.mem_cons, List.not_mem_nil, or_false, Prod.mk.injEq, CS.ht.injEq, reduceCtorEq, and_false, or_false, false_or] at hp
  have I__law_cell : PrI P w K mg base C f__law_cell 2 := by
    refine ⟨FD, IS, fun _ t g n hp => ?_⟩
    simp only [f__law_cell, List.mem_cons, List.not_mem_nil, or_false, Prod.mk.injEq, CS.me.injEq, reduceCtorEq, and_false, false_and, or_false, false_or] at hp
  have o__law_cell : FnOk P w K mg base (L2N.CX P w) 3 (He.fAd K d__law_cell.at_) e__law_cell ["_law_script", "_law_k"] (spOf K mg 2 pr_law_cell) := fn_okF F__law_cell sc__law_cell P__law_cell I__law_cell ck__law_cell (w_law_cell genC)
  have hm__law_cell : mg (Str.ofString "_law_cell") = some (.ref (He.fAd K d__law_cell.at_)) := hm_of X G cd (by decide)
  have ff__law_cell_0 : FnF P w K mg base 3 "_law_cell" (CS.pl 2).n ((CS.pl 2).ks.map Str.ofString) (CS.pl 2).arr (C.call "_law_cell") := by
    rw [C__law_cell]
    exact ff_pl (ps := ["_law_script", "_law_k"]) F__law_cell hm__law_cell (fun _ _ _ _ _ _ us hl => match us, hl with | [_, _], _ => rfl) o__law_cell
  have P__law_purse : Prm P w K mg base C f__law_purse 2 := by
    refine ⟨B, GL, DC, fun _ g s hp hne hnt => ?_, fun g n hp a => ?_, SB, fun f ns e => ⟨by decide, EX f ns e⟩, XF⟩
    · simp only [f__law_purse, List.mem_cons, List.not_mem_nil, or_false, Prod.mk.injEq] at hp
    · simp only [f__law_purse, List.mem_cons, List.not_mem_nil, or_false, Prod.mk.injEq, CS.ht.injEq, reduceCtorEq, and_false, or_false, false_or] at hp
  have I__law_purse : PrI P w K mg base C f__law_purse 2 := by
    refine ⟨FD, IS, fun _ t g n hp => ?_⟩
    simp only [f__law_purse, List.mem_cons, List.not_mem_nil, or_false, Prod.mk.injEq, CS.me.injEq, reduceCtorEq, and_false, false_and, or_false, false_or] at hp
  have o__law_purse : FnOk P w K mg base (L2N.CX P w) 3 (He.fAd K d__law_purse.at_) e__law_purse ["_law_cell_here"] (spOf K mg 1 pr_law_purse) := fn_okF F__law_purse sc__law_purse P__law_purse I__law_purse ck__law_purse (w_law_purse genC)
  have hm__law_purse : mg (Str.ofString "_law_purse") = some (.ref (He.fAd K d__law_purse.at_)) := hm_of X G cd (by decide)
  have ff__law_purse_0 : FnF P w K mg base 3 "_law_purse" (CS.pl 1).n ((CS.pl 1).ks.map Str.ofString) (CS.pl 1).arr (C.call "_law_purse") := by
    rw [C__law_purse]
    exact ff_pl (ps := ["_law_cell_here"]) F__law_purse hm__law_purse (fun _ _ _ _ _ _ us hl => match us, hl with | [_], _ => rfl) o__law_purse
  have P__law_pick : Prm P w K mg base C f__law_pick 2 := by
    refine ⟨B, GL, DC, fun _ g s hp hne hnt => ?_, fun g n hp a => ?_, SB, fun f ns e => ⟨by decide, EX f ns e⟩, XF⟩
    · simp only [f__law_pick, List.mem_cons, List.not_mem_nil, or_false, Prod.mk.injEq] at hp
    · simp only [f__law_pick, List.mem_cons, List.not_mem_nil, or_false, Prod.mk.injEq, CS.ht.injEq, reduceCtorEq, and_false, or_false, false_or] at hp
  have I__law_pick : PrI P w K mg base C f__law_pick 2 := by
    refine ⟨FD, IS, fun _ t g n hp => ?_⟩
    simp only [f__law_pick, List.mem_cons, List.not_mem_nil, or_false, Prod.mk.injEq, CS.me.injEq, reduceCtorEq, and_false, false_and, or_false, false_or] at hp
  have o__law_pick : FnOk P w K mg base (L2N.CX P w) 3 (He.fAd K d__law_pick.at_) e__law_pick ["_law_purse_here", "_law_many"] (spOf K mg 2 pr_law_pick) := fn_okF F__law_pick sc__law_pick P__law_pick I__law_pick ck__law_pick (w_law_pick genC)
  have hm__law_pick : mg (Str.ofString "_law_pick") = some (.ref (He.fAd K d__law_pick.at_)) := hm_of X G cd (by decide)
  have ff__law_pick_0 : FnF P w K mg base 3 "_law_pick" (CS.pl 2).n ((CS.pl 2).ks.map Str.ofString) (CS.pl 2).arr (C.call "_law_pick") := by
    rw [C__law_pick]
    exact ff_pl (ps := ["_law_purse_here", "_law_many"]) F__law_pick hm__law_pick (fun _ _ _ _ _ _ us hl => match us, hl with | [_, _], _ => rfl) o__law_pick
  have P__law_names : Prm P w K mg base C f__law_names 3 := by
    refine ⟨B, GL, DC, fun _ g s hp hne hnt => ?_, fun g n hp a => ?_, SB, fun f ns e => ⟨by decide, EX f ns e⟩, XF⟩
    · simp only [f__law_names, List.mem_cons, List.not_mem_nil, or_false, Prod.mk.injEq] at hp
      rcases hp with ⟨rfl, rfl⟩
      · exact ff__law_pick_0.mono (by decide)
    · simp only [f__law_names, List.mem_cons, List.not_mem_nil, or_false, Prod.mk.injEq, CS.ht.injEq, reduceCtorEq, and_false, or_false, false_or] at hp
  have I__law_names : PrI P w K mg base C f__law_names 3 := by
    refine ⟨FD, IS, fun _ t g n hp => ?_⟩
    simp only [f__law_names, List.mem_cons, List.not_mem_nil, or_false, Prod.mk.injEq, CS.me.injEq, reduceCtorEq, and_false, false_and, or_false, false_or] at hp
  have o__law_names : FnOk P w K mg base (L2N.CX P w) 4 (He.fAd K d__law_names.at_) e__law_names ["_law_purse_here", "_law_size"] (spOf K mg 2 pr_law_names) := fn_okF F__law_names sc__law_names P__law_names I__law_names ck__law_names (w_law_names genC)
  have hm__law_names : mg (Str.ofString "_law_names") = some (.ref (He.fAd K d__law_names.at_)) := hm_of X G cd (by decide)
  have ff__law_names_0 : FnF P w K mg base 4 "_law_names" (CS.pl 2).n ((CS.pl 2).ks.map Str.ofString) (CS.pl 2).arr (C.call "_law_names") := by
    rw [C__law_names]
    exact ff_pl (ps := ["_law_purse_here", "_law_size"]) F__law_names hm__law_names (fun _ _ _ _ _ _ us hl => match us, hl with | [_, _], _ => rfl) o__law_names
  have P__law_one_word : Prm P w K mg base C f__law_one_word 3 := by
    refine ⟨B, GL, DC, fun _ g s hp hne hnt => ?_, fun g n hp a => ?_, SB, fun f ns e => ⟨by decide, EX f ns e⟩, XF⟩
    · simp only [f__law_one_word, List.mem_cons, List.not_mem_nil, or_false, Prod.mk.injEq] at hp
      rcases hp with ⟨rfl, rfl⟩
      · exact ff__law_pick_0.mono (by decide)
    · simp only [f__law_one_word, List.mem_cons, List.not_mem_nil, or_false, Prod.mk.injEq, CS.ht.injEq, reduceCtorEq, and_false, or_false, false_or] at hp
  have I__law_one_word : PrI P w K mg base C f__law_one_word 3 := by
    refine ⟨FD, IS, fun _ t g n hp => ?_⟩
    simp only [f__law_one_word, List.mem_cons, List.not_mem_nil, or_false, Prod.mk.injEq, CS.me.injEq, reduceCtorEq, and_false, false_and, or_false, false_or] at hp
  have o__law_one_word : FnOk P w K mg base (L2N.CX P w) 4 (He.fAd K d__law_one_word.at_) e__law_one_word ["_law_purse_here"] (spOf K mg 1 pr_law_one_word) := fn_okF F__law_one_word sc__law_one_word P__law_one_word I__law_one_word ck__law_one_word (w_law_one_word genC)
  have hm__law_one_word : mg (Str.ofString "_law_one_word") = some (.ref (He.fAd K d__law_one_word.at_)) := hm_of X G cd (by decide)
  have ff__law_one_word_0 : FnF P w K mg base 4 "_law_one_word" (CS.pl 1).n ((CS.pl 1).ks.map Str.ofString) (CS.pl 1).arr (C.call "_law_one_word") := by
    rw [C__law_one_word]
    exact ff_pl (ps := ["_law_purse_here"]) F__law_one_word hm__law_one_word (fun _ _ _ _ _ _ us hl => match us, hl with | [_], _ => rfl) o__law_one_word
  have P__law_tokens : Prm P w K mg base C f__law_tokens 4 := by
    refine ⟨B, GL, DC, fun _ g s hp hne hnt => ?_, fun g n hp a => ?_, SB, fun f ns e => ⟨by decide, EX f ns e⟩, XF⟩
    · simp only [f__law_tokens, List.mem_cons, List.not_mem_nil, or_false, Prod.mk.injEq] at hp
      rcases hp with ⟨rfl, rfl⟩ | ⟨rfl, rfl⟩
      · exact ff__law_pick_0.mono (by decide)
      · exact ff__law_one_word_0.mono (by decide)
    · simp only [f__law_tokens, List.mem_cons, List.not_mem_nil, or_false, Prod.mk.injEq, CS.ht.injEq, reduceCtorEq, and_false, or_false, false_or] at hp
  have I__law_tokens : PrI P w K mg base C f__law_tokens 4 := by
    refine ⟨FD, IS, fun _ t g n hp => ?_⟩
    simp only [f__law_tokens, List.mem_cons, List.not_mem_nil, or_false, Prod.mk.injEq, CS.me.injEq, reduceCtorEq, and_false, false_and, or_false, false_or] at hp
  have o__law_tokens : FnOk P w K mg base (L2N.CX P w) 5 (He.fAd K d__law_tokens.at_) e__law_tokens ["_law_purse_here", "_law_upto", "_law_marks", "_law_refs", "_law_bare"] (spOf K mg 5 pr_law_tokens) := fn_okF F__law_tokens sc__law_tokens P__law_tokens I__law_tokens ck__law_tokens (w_law_tokens genC)
  have hm__law_tokens : mg (Str.ofString "_law_tokens") = some (.ref (He.fAd K d__law_tokens.at_)) := hm_of X G cd (by decide)
  have ff__law_tokens_0 : FnF P w K mg base 5 "_law_tokens" (CS.pl 5).n ((CS.pl 5).ks.map Str.ofString) (CS.pl 5).arr (C.call "_law_tokens") := by
    rw [C__law_tokens]
    exact ff_pl (ps := ["_law_purse_here", "_law_upto", "_law_marks", "_law_refs", "_law_bare"]) F__law_tokens hm__law_tokens (fun _ _ _ _ _ _ us hl => match us, hl with | [_, _, _, _, _], _ => rfl) o__law_tokens
  have P__law_with_note : Prm P w K mg base C f__law_with_note 5 := by
    refine ⟨B, GL, DC, fun _ g s hp hne hnt => ?_, fun g n hp a => ?_, SB, fun f ns e => ⟨by decide, EX f ns e⟩, XF⟩
    · simp only [f__law_with_note, List.mem_cons, List.not_mem_nil, or_false, Prod.mk.injEq] at hp
      rcases hp with ⟨rfl, rfl⟩ | ⟨rfl, rfl⟩
      · exact ff__law_pick_0.mono (by decide)
      · exact ff__law_tokens_0.mono (by decide)
    · simp only [f__law_with_note, List.mem_cons, List.not_mem_nil, or_false, Prod.mk.injEq, CS.ht.injEq, reduceCtorEq, and_false, or_false, false_or] at hp
  have I__law_with_note : PrI P w K mg base C f__law_with_note 5 := by
    refine ⟨FD, IS, fun _ t g n hp => ?_⟩
    simp only [f__law_with_note, List.mem_cons, List.not_mem_nil, or_false, Prod.mk.injEq, CS.me.injEq, reduceCtorEq, and_false, false_and, or_false, false_or] at hp
  have o__law_with_note : FnOk P w K mg base (L2N.CX P w) 6 (He.fAd K d__law_with_note.at_) e__law_with_note ["_law_purse_here", "_law_tokens_here", "_law_refs"] (spOf K mg 3 pr_law_with_note) := fn_okF F__law_with_note sc__law_with_note P__law_with_note I__law_with_note ck__law_with_note (w_law_with_note genC)
  have hm__law_with_note : mg (Str.ofString "_law_with_note") = some (.ref (He.fAd K d__law_with_note.at_)) := hm_of X G cd (by decide)
  have ff__law_with_note_0 : FnF P w K mg base 6 "_law_with_note" (CS.pl 3).n ((CS.pl 3).ks.map Str.ofString) (CS.pl 3).arr (C.call "_law_with_note") := by
    rw [C__law_with_note]
    exact ff_pl (ps := ["_law_purse_here", "_law_tokens_here", "_law_refs"]) F__law_with_note hm__law_with_note (fun _ _ _ _ _ _ us hl => match us, hl with | [_, _, _], _ => rfl) o__law_with_note
  have P__law_shown_right : Prm P w K mg base C f__law_shown_right 8 := by
    refine ⟨B, GL, DC, fun _ g s hp hne hnt => ?_, fun g n hp a => ?_, SB, fun f ns e => ⟨by decide, EX f ns e⟩, XF⟩
    · simp only [f__law_shown_right, List.mem_cons, List.not_mem_nil, or_false, Prod.mk.injEq] at hp
      rcases hp with ⟨rfl, rfl⟩ | ⟨rfl, rfl⟩
      · exact ff__law_amiss_0.mono (by decide)
      · exact ff__law_told_0.mono (by decide)
    · simp only [f__law_shown_right, List.mem_cons, List.not_mem_nil, or_false, Prod.mk.injEq, CS.ht.injEq, reduceCtorEq, and_false, or_false, false_or] at hp
  have I__law_shown_right : PrI P w K mg base C f__law_shown_right 8 := by
    refine ⟨FD, IS, fun _ t g n hp => ?_⟩
    simp only [f__law_shown_right, List.mem_cons, List.not_mem_nil, or_false, Prod.mk.injEq, CS.me.injEq, reduceCtorEq, and_false, false_and, or_false, false_or] at hp
  have o__law_shown_right : FnOk P w K mg base (L2N.CX P w) 9 (He.fAd K d__law_shown_right.at_) e__law_shown_right ["_law_lot"] (spOf K mg 1 pr_law_shown_right) := fn_okF F__law_shown_right sc__law_shown_right P__law_shown_right I__law_shown_right ck__law_shown_right w_law_shown_right
  have hm__law_shown_right : mg (Str.ofString "_law_shown_right") = some (.ref (He.fAd K d__law_shown_right.at_)) := hm_of X G cd (by decide)
  have ff__law_shown_right_0 : FnF P w K mg base 9 "_law_shown_right" (CS.pl 1).n ((CS.pl 1).ks.map Str.ofString) (CS.pl 1).arr (C.call "_law_shown_right") := by
    rw [C__law_shown_right]
    exact ff_pl (ps := ["_law_lot"]) F__law_shown_right hm__law_shown_right (fun _ _ _ _ _ _ us hl => match us, hl with | [_], _ => rfl) o__law_shown_right
  have P__law_odd : Prm P w K mg base C f__law_odd 7 := by
    refine ⟨B, GL, DC, fun _ g s hp hne hnt => ?_, fun g n hp a => ?_, SB, fun f ns e => ⟨by decide, EX f ns e⟩, XF⟩
    · simp only [f__law_odd, List.mem_cons, List.not_mem_nil, or_false, Prod.mk.injEq] at hp
      rcases hp with ⟨rfl, rfl⟩ | ⟨rfl, rfl⟩
      · exact ff_Text_0.mono (by decide)
      · exact ff__law_pick_0.mono (by decide)
    · simp only [f__law_odd, List.mem_cons, List.not_mem_nil, or_false, Prod.mk.injEq, CS.ht.injEq, reduceCtorEq, and_false, or_false, false_or] at hp
  have I__law_odd : PrI P w K mg base C f__law_odd 7 := by
    refine ⟨FD, IS, fun _ t g n hp => ?_⟩
    simp only [f__law_odd, List.mem_cons, List.not_mem_nil, or_false, Prod.mk.injEq, CS.me.injEq, reduceCtorEq, and_false, false_and, or_false, false_or] at hp
  have o__law_odd : FnOk P w K mg base (L2N.CX P w) 8 (He.fAd K d__law_odd.at_) e__law_odd ["_law_purse_here"] (spOf K mg 1 pr_law_odd) := fn_okF F__law_odd sc__law_odd P__law_odd I__law_odd ck__law_odd w_law_odd
  have hm__law_odd : mg (Str.ofString "_law_odd") = some (.ref (He.fAd K d__law_odd.at_)) := hm_of X G cd (by decide)
  have ff__law_odd_0 : FnF P w K mg base 8 "_law_odd" (CS.pl 1).n ((CS.pl 1).ks.map Str.ofString) (CS.pl 1).arr (C.call "_law_odd") := by
    rw [C__law_odd]
    exact ff_pl (ps := ["_law_purse_here"]) F__law_odd hm__law_odd (fun _ _ _ _ _ _ us hl => match us, hl with | [_], _ => rfl) o__law_odd
  have P__law_bent : Prm P w K mg base C f__law_bent 8 := by
    refine ⟨B, GL, DC, fun _ g s hp hne hnt => ?_, fun g n hp a => ?_, SB, fun f ns e => ⟨by decide, EX f ns e⟩, XF⟩
    · simp only [f__law_bent, List.mem_cons, List.not_mem_nil, or_false, Prod.mk.injEq] at hp
      rcases hp with ⟨rfl, rfl⟩ | ⟨rfl, rfl⟩
      · exact ff__law_pick_0.mono (by decide)
      · exact ff__law_odd_0.mono (by decide)
    · simp only [f__law_bent, List.mem_cons, List.not_mem_nil, or_false, Prod.mk.injEq, CS.ht.injEq, reduceCtorEq, and_false, or_false, false_or] at hp
  have I__law_bent : PrI P w K mg base C f__law_bent 8 := by
    refine ⟨FD, IS, fun _ t g n hp => ?_⟩
    simp only [f__law_bent, List.mem_cons, List.not_mem_nil, or_false, Prod.mk.injEq, CS.me.injEq, reduceCtorEq, and_false, false_and, or_false, false_or] at hp
  have o__law_bent : FnOk P w K mg base (L2N.CX P w) 9 (He.fAd K d__law_bent.at_) e__law_bent ["_law_purse_here", "_law_lot"] (spOf K mg 2 pr_law_bent) := fn_okF F__law_bent sc__law_bent P__law_bent I__law_bent ck__law_bent w_law_bent
  have hm__law_bent : mg (Str.ofString "_law_bent") = some (.ref (He.fAd K d__law_bent.at_)) := hm_of X G cd (by decide)
  have ff__law_bent_0 : FnF P w K mg base 9 "_law_bent" (CS.pl 2).n ((CS.pl 2).ks.map Str.ofString) (CS.pl 2).arr (C.call "_law_bent") := by
    rw [C__law_bent]
    exact ff_pl (ps := ["_law_purse_here", "_law_lot"]) F__law_bent hm__law_bent (fun _ _ _ _ _ _ us hl => match us, hl with | [_, _], _ => rfl) o__law_bent
  have P_law : Prm P w K mg base C f_law 9 := by
    refine ⟨B, GL, DC, fun _ g s hp hne hnt => ?_, fun g n hp a => ?_, SB, fun f ns e => ⟨by decide, EX f ns e⟩, XF⟩
    · simp only [f_law, List.mem_cons, List.not_mem_nil, or_false, Prod.mk.injEq] at hp
      rcases hp with ⟨rfl, rfl⟩ | ⟨rfl, rfl⟩ | ⟨rfl, rfl⟩ | ⟨rfl, rfl⟩ | ⟨rfl, rfl⟩ | ⟨rfl, rfl⟩ | ⟨rfl, rfl⟩ | ⟨rfl, rfl⟩ | ⟨rfl, rfl⟩ | ⟨rfl, rfl⟩
      · exact ff__law_read_right_0.mono (by decide)
      · exact ff__law_kinds_right_0.mono (by decide)
      · exact ff__law_cell_0.mono (by decide)
      · exact ff__law_purse_0.mono (by decide)
      · exact ff__law_pick_0.mono (by decide)
      · exact ff__law_names_0.mono (by decide)
      · exact ff__law_tokens_0.mono (by decide)
      · exact ff__law_with_note_0.mono (by decide)
      · exact ff__law_shown_right_0.mono (by decide)
      · exact ff__law_bent_0.mono (by decide)
    · simp only [f_law, List.mem_cons, List.not_mem_nil, or_false, Prod.mk.injEq, CS.ht.injEq, reduceCtorEq, and_false, or_false, false_or] at hp
  have I_law : PrI P w K mg base C f_law 9 := by
    refine ⟨FD, IS, fun _ t g n hp => ?_⟩
    simp only [f_law, List.mem_cons, List.not_mem_nil, or_false, Prod.mk.injEq, CS.me.injEq, reduceCtorEq, and_false, false_and, or_false, false_or] at hp
  have o_law : FnOk P w K mg base (L2N.CX P w) 10 (He.fAd K d_law.at_) e_law ["_law_script"] (spOf K mg 1 pr_law) := fn_okF F_law sc_law P_law I_law ck_law w_law
  exact (PT.FnOk.cx0 o_law).imp fun vs H Q E h => h mg
end k03
end PT
end
section
set_option linter.all false
set_option maxRecDepth 100000
set_option maxHeartbeats 0
open PySem PySem.W PySem.Calls PyProof.Rows
theorem PySem.Challenge.cw_papertongue_k03_tokens_refused_holds : PySem.Challenge.rw_papertongue_k03_tokens_refused.Holds := by
  w_on; o_law
  refine HandSHeadRun.head_any (r := OpenLaw.row PySem.Challenge.rw_papertongue_k03_tokens_refused) (q := PT.k03.hdQ) (H := PT.k03.hdK) (ob := PT.k03.hdO) (M := 9000) (loose := PT.k03.hdN) (d := HandSHeadRun.topDef (OpenLaw.row PySem.Challenge.rw_papertongue_k03_tokens_refused).prog 96) (kwd := []) PT.k03.hdO_eq
    (by kernel_rfl) (fun s => by kernel_rfl) PT.k03.run (by kernel_rfl) (by kernel_rfl) (by kernel_rfl) (by rfl) (by first | assumption | decide +kernel) (by decide +kernel) ⟨rfl, rfl, rfl, rfl, rfl, by decide +kernel⟩ ?hw ?hc
  case hw => w_witness2
  case hc =>
    refine L2.walk_ofE (l := PySem.Challenge.rw_papertongue_k03_tokens_refused) (n := 63) (k := 10) (x := "_law_script") (CX := L2.CX0) rfl (by decide) (by kernel_rfl) ⟨rfl, by decide, by decide⟩ ?F (fun _ _ _ _ z => z)
    intro w mg fa h Y G hmg0
    obtain ⟨K, KX, c⟩ := Y
    have hmg : mg ("law" : PySem.Str) = some (.ref fa) := by
      have e : (HandSHeadRun.topDef (OpenLaw.row PySem.Challenge.rw_papertongue_k03_tokens_refused).prog 96).name = ("law" : PySem.Str) := by kernel_rfl
      rw [← e]
      exact hmg0
    have c1 : He.SaysD PT.k03.faL PT.k03.fnL K := congrArg (fun z : PT.k03.hdV => z.1) c
    have c2 : PT.k03.exB K = true := congrArg (fun z : PT.k03.hdV => z.2.1) c
    have c3 : PT.k03.tsL.map (fun t => He.dicW K (t.1 K)) = PT.k03.tsL.map fun t => some (He.keysIn w.params t.2) := congrArg (fun z : PT.k03.hdV => z.2.2) c
    obtain ⟨fd, hb, hF⟩ := PT.k03.facts (w := w) KX G hmg c1 c2 c3
    exact ⟨K, fd, PT.k03.spL K, KX, hb, fun H a ns hl hO hS mg => PT.law_start hO hS hl (PT.k03.law_ask ns hl), hF⟩
end
