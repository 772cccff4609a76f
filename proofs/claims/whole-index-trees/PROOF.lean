import PyProof.Rows.All
import Wide.All
import OpenK.AllK
import Wide.FinOn
import KE.KStateDown
import KE.SortKeyHeap
import PyProof.ReprReads
import HandS.ForMost
import HandS.ForExc
import HandS.Flow
import HandS.Style
import HandS.Conv
import HandS.Codes
import HandS.Defaults
import HandS.More
import HandS.Star
import HandS.MethStar
import HandS.ClsMeth
import HandS.IsInst
import HandS.SetKeys
import HandS.RaiseMore
import HandS.FStr
import HandS.Small
import HandS.TupAny
import HandS.SortOrd
import HandS.SortKw
import HandS.GenList
import HandS.HotCalls
import HandS.ExcSuper
import HandS.ExcInit
import HandS.ExcField
import HandS.ExcIs
import HandS.TryMany
import HandS.Lambda
import HandS.EndTab
import HandS.HeadWalk
import HandS.HeadEnd
import HandS.HeadHook1
import HandS.HeadHook2
import HandS.HeadHook3
import HandS.HeadHook4
import HandS.Head2
import HandS.IterVal
import HandS.SlotsOwn
import HandS.Wide
import HandS.WideBits
import KE.KExcSuper
import HandS.Head0
import HandS.Head1
import HandS.Nested
import KE.KTryMore
import HandS.DeepEq
import PySem.Challenge.RW_aboveless_k61_whole_index_trees
set_option Elab.async false
set_option linter.all false
set_option maxRecDepth 100000
set_option maxHeartbeats 4000000
/-! ## The text by places, the facts of the module, data -/
namespace Abv
open PySem PySem.Spec PyProof.Rows L2

/-- the i-th statement of the module -/
def top (i : Nat) : Stmt := PySem.Challenge.pw_aboveless_k61_whole_index_trees.main.body.getD i (.Pass ⟨0, 0, 0, 0⟩)

/-! ### callable things -/
/-- a def of the module's name x, called by position with this promise -/
structure Cl (CX : CXT) (P : Program) (w : World) (K : PySem.W.Frag) (mg : Str → Option Value) (base : Heap) (k : Nat) (x : Str) (sp : Sp) : Prop where
  ex : ∃ f : Addr, FnR P w K mg base CX k f sp ∧ mg x = some (.ref f) ∧ PySem.W.keepIn K (.ref f) = true
/-- a method of the class at C -/
structure Me (CX : CXT) (P : Program) (w : World) (K : PySem.W.Frag) (mg : Str → Option Value) (base : Heap) (k : Nat) (C : Addr) (m : Str) (sp : Sp) : Prop where
  ex : ∃ f : Addr, Cls K C ∧ Meth K C m f ∧ FnR P w K mg base CX k f sp

section
variable {X : Cx} {CX : CXT} {k j : Nat} {C : Addr} {x m : Str} {sp : Sp} {E : XK} {p pos apos : Pos} {e o : Expr} {es : List Expr} {ta : TE} {t : TA}
/-- the call of such a def -/
def tCl (sp : Sp) (E : XK) (t : TA) : TE := fun σ H Q => t σ H fun vs H1 => sp vs H1 Q E
theorem pe_cl (c : Cl CX X.prog X.w X.K X.mg X.base k x sp) (hr : Room j X.A) (hk : k ≤ j) (hx : Passes CX X E) (hg : Gl X x) (ha : PA X (e :: es) t)
    (hdb : (x == ("__debug__" : Str)) = false := by decide) (he : starEach (e :: es) X.env = (false, eval e X.env) :: starEach es X.env := by rfl) (hpl : (backTo pos (starEach es X.env)).any (·.1) = false := by rfl) :
    PE X (.Call (.Name x p) (e :: es) [] pos) (tCl sp E t) := by
  obtain ⟨f, F, gm, kp⟩ := c.ex
  constructor
  intro pins s σ H Q I h
  refine wpAny_Call_Name_kw (ld_glob I hg gm ?_ hdb)
  refine PySem.W.callWith_K (h₀ := X.base) I.ok.mod.kin kp ?_ he hpl
  refine thn (ha.run pos pins s σ H _ I h) ?_
  rintro us s1 ⟨vs, H1, I1, r, q⟩
  exact ⟨I1.kIn, wpAny_call (run_fnR F (hr.mono hk) hx I1 r q)⟩
theorem pe_cl0 (c : Cl CX X.prog X.w X.K X.mg X.base k x sp) (hr : Room j X.A) (hk : k ≤ j) (hx : Passes CX X E) (hg : Gl X x)
    (hdb : (x == ("__debug__" : Str)) = false := by decide) :
    PE X (.Call (.Name x p) [] [] pos) (tCl sp E tNil) := by
  obtain ⟨f, F, gm, kp⟩ := c.ex
  constructor
  intro pins s σ H Q I h
  refine wpAny_Call_Name_kw (ld_glob I hg gm ?_ hdb)
  exact PySem.W.callWith_K0 I.kIn kp (wpAny_call (run_fnR (us := []) F (hr.mono hk) hx I .nil h))
end

/-- the class of labels -/
def CL (K : PySem.W.Frag) : Addr := He.ga K "Label"
/-! ### data -/
/-- data that may hold labels -/
inductive Dt where
  | non | bl (b : Bool) | int (i : Int) | str (s : Str) | lst (xs : List Dt) | tup (xs : List Dt) | lab (ms : List Str)

mutual
/-- the value v is this data; C: the class of labels -/
def Rp (K : PySem.W.Frag) (C : Addr) (H : Hp) : Dt → V → Prop
  | .non, v => v = .non
  | .bl b, v => v = .bl b
  | .int i, v => v = .int i
  | .str s, v => v = .str s
  | .lst ds, v => ∃ a xs, v = .ref a ∧ SqL K H a xs ∧ RpA K C H ds xs
  | .tup ds, v => ∃ a xs, v = .ref a ∧ SqT K H a xs ∧ RpA K C H ds xs
  | .lab ms, v => ∃ a dx t, v = .ref a ∧ H a = some (.ins C dx [("own_marks", .ref t)]) ∧ SqT K H t (ms.map V.str)
def RpA (K : PySem.W.Frag) (C : Addr) (H : Hp) : List Dt → List V → Prop
  | [], vs => vs = []
  | d :: ds, vs => ∃ v r, vs = v :: r ∧ Rp K C H d v ∧ RpA K C H ds r
end

theorem Same.seqT {K : PySem.W.Frag} {H H' : Hp} {a : Addr} {xs : List V} (e : Same H H') (h : SqT K H a xs) : SqT K H' a xs := by
  rcases h with (h | ⟨o, h⟩) | h
  · exact .inl (.inl (e _ _ h))
  · exact .inl (.inr ⟨o, e _ _ h⟩)
  · exact .inr h

section
variable {K : PySem.W.Frag} {C : Addr} {H H' : Hp}
mutual
theorem Rp.same (e : Same H H') : ∀ (d : Dt) (v : V), Rp K C H d v → Rp K C H' d v
  | .non, v, h => h
  | .bl b, v, h => h
  | .int i, v, h => h
  | .str s, v, h => h
  | .lst ds, v, h => by
    unfold Rp at h ⊢
    obtain ⟨a, xs, h1, h2, h3⟩ := h
    exact ⟨a, xs, h1, e.seq h2, RpA.same e ds xs h3⟩
  | .tup ds, v, h => by
    unfold Rp at h ⊢
    obtain ⟨a, xs, h1, h2, h3⟩ := h
    exact ⟨a, xs, h1, Same.seqT e h2, RpA.same e ds xs h3⟩
  | .lab ms, v, h => by
    unfold Rp at h ⊢
    obtain ⟨a, dx, t, h1, h2, h3⟩ := h
    exact ⟨a, dx, t, h1, e _ _ h2, Same.seqT e h3⟩
theorem RpA.same (e : Same H H') : ∀ (ds : List Dt) (vs : List V), RpA K C H ds vs → RpA K C H' ds vs
  | [], vs, h => h
  | d :: ds, vs, h => by
    unfold RpA at h ⊢
    obtain ⟨v, r, h1, h2, h3⟩ := h
    exact ⟨v, r, h1, Rp.same e d v h2, RpA.same e ds r h3⟩
end
end
end Abv
set_option Elab.async false
set_option linter.all false
set_option maxRecDepth 100000
set_option maxHeartbeats 8000000
/-! ## What is looked at behind the module's top -/
namespace Abv
open PySem PySem.Spec PyProof.Rows L2
/-! ### a function with its captured names -/
abbrev FnC : Type := Option (Str × Str × Arguments × FuncBody × Scope × Addr × List Str × Addr)
def fnC (K : PySem.W.Frag) (a : Addr) : FnC := match K.lookup a with
  | some ⟨_, _, .func d, _⟩ => some (d.name, d.qualname, d.params, d.body, d.scope, d.globals, d.closure.map (·.1), d.builtins)
  | _ => none
structure DefC where
  at_ : PySem.W.Frag → Addr
  name : Str
  qual : Str
  st : Stmt
  cl : List Str
def DefC.val (d : DefC) : FnC := some (d.name, d.qual, defArgs d.st, .stmts (defBody d.st), defScope d.st, mainGlobals, d.cl, builtinsNs)
def noDfl : Value → Bool
  | .none => true
  | _ => false
/-- its code, no defaults -/
def fnB (K : PySem.W.Frag) (a : Addr) (q : Str) : Bool := PySem.W.keepIn K (.ref a) && match K.lookup a with
  | some ⟨_, _, .func d, _⟩ => PySem.W.codeIn K d.code q && noDfl d.defaults
  | _ => false
/-! ### Label's own: a constant, a classmethod, isinstance -/
def crB (K : PySem.W.Frag) (C : Addr) : Bool := PySem.W.readsIn K C (.type "type") && He.eqO (PySem.W.specialIn K (.ref C) "__getattribute__") (some (some (.builtin "type.__getattribute__")))
def cvB (K : PySem.W.Frag) (C : Addr) (f : Str) (v : V) : Bool := match PySem.W.findCls K (.ref C) (.type "type") f with
  | some (.val u) => He.relB v u
  | _ => false
/-- the classmethod's record, its def -/
def cmP (K : PySem.W.Frag) (C : Addr) (m : Str) : Addr := match PySem.W.findCls K (.ref C) (.type "type") m with
  | some (.get _ (.ref p) _ _) => p
  | _ => 0
def cmG (K : PySem.W.Frag) (C : Addr) (m : Str) : Addr := match PySem.W.recIn K (cmP K C m) "classmethod" with
  | some (.ref g :: _) => g
  | _ => 0
def cmB (K : PySem.W.Frag) (C : Addr) (m : Str) : Bool := (match PySem.W.findCls K (.ref C) (.type "type") m with
  | some (.get (.builtin i) (.ref _) .none (.ref c)) => decide (i = "classmethod.__get__") && decide (c = C)
  | _ => false) && ((match PySem.W.recIn K (cmP K C m) "classmethod" with
  | some (.ref _ :: _) => true
  | _ => false) && PySem.W.fnIn K (cmG K C m))
def zO1 (x : Option (Option Value)) (y : Value) : Bool := He.eqO x (some (some y))
def icB (K : PySem.W.Frag) (C : Addr) : Bool := zO1 (PySem.W.findIn K (.ref C) "__class__") (.builtin "object.__class__") && (zO1 (PySem.W.specialIn K (.builtin "object.__class__") "__get__") (.builtin "getset_descriptor.__get__") && (decide (PySem.W.takesIn K (.builtin "object.__class__") = some true) &&
  (decide (PySem.W.mroIn K C (.type "object") = some true) && (decide (PySem.W.kitOne K (.ref C) (.ref C) = some true) && (["NoneType", "str", "int"].all fun t => decide (PySem.W.kitOne K (.type t) (.ref C) = some false))))))
/-! ### the exceptions -/
def xcB (K : PySem.W.Frag) (C : Addr) (Bn nw ini : String) (bm : List Value) : Bool := PySem.W.excInitIn K C bm nw && (PySem.W.excOver K C bm && (PySem.W.hasDictIn K C && (zO1 (PySem.W.findIn K (.ref C) "__setattr__") (.builtin "object.__setattr__") && (decide (PySem.W.subIn K (.ref C) (.type "BaseException") = some true) &&
  (decide (PySem.W.subIn K (.ref C) (.type Bn) = some true) && (decide (PySem.W.typeIn K (.ref C) = some (.type "type")) && (PySem.W.keepIn K (.ref C) && (zO1 (PySem.W.ks_superIn K C C "__init__") (.builtin ini) && He.eqO (PySem.W.nsIn K cStatics "thirdparty.any") (some none)))))))))
/-- the file of the code at v -/
def fileB (K : PySem.W.Frag) (file : Str) : Value → Bool
  | .ref c => (match K.lookup c with
    | some ⟨_, _, .fields vs, _⟩ => (match (vs[2]? : Option Value) with
      | some (.str f _) => file == f
      | _ => false)
    | _ => false)
  | _ => false
/-- the one cell holds the class -/
def cellB (K : PySem.W.Frag) (C : Addr) : List (Str × Addr) → Bool
  | [(_, cc)] => (match K.lookup cc with
    | some ⟨_, _, .cell (some (.ref c)), _⟩ => decide (c = C)
    | _ => false)
  | _ => false
def xfB (K : PySem.W.Frag) (C f : Addr) (file q : Str) : Bool := fnB K f q && ((match K.lookup f with
  | some ⟨_, _, .func d, _⟩ => fileB K file d.code && cellB K C d.closure
  | _ => false) && (zO1 (PySem.W.findIn K (.ref C) "__init__") (.ref f) && decide (PySem.W.typeIn K (.ref f) = some (.type "function"))))
def xoB (K : PySem.W.Frag) (C : Addr) : Bool := L2.xfB K C && (He.eqO (PySem.W.findIn K (.ref C) "told_parts") (some none) && decide (PySem.W.exmAny K (.ref C) [.ref (He.ga K "InvalidError"), .ref (He.ga K "MissingError")] = some true))
abbrev bmVe : List Value := [.type "ValueError", .type "Exception", .type "BaseException", .type "object"]
abbrev bmLe : List Value := [.type "LookupError", .type "Exception", .type "BaseException", .type "object"]
/-! ### the Hook -/
abbrev prg : Program := PySem.Challenge.pw_aboveless_k61_whole_index_trees
def zFa0 : List He.Fa := [.free "len", .free "abs", .free "max", .free "min", .free "int", .free "bool", .free "divmod", .free "sorted", .free "tuple", .free "all", .free "any", .free "repr", .free "isinstance", .free "enumerate", .free "range", .free "str", .free "list", .free "super", .str "INT" "int", .str "TEXT" "text"]
def zFa1 : List He.Fa := [.str "TRUTH" "truth", .str "LETTERS" "abcdefghijklmnopqrstuvwxyz", .str "QUOTE" "'", .str "EMPTY_TEXT" "empty", .str "TRUE_TEXT" "true", .str "FALSE_TEXT" "false", .str "BETWEEN_MARKS" "+", .str "NO_MARKS" "-", .int "LONGEST_NAME" 8, .int "LONGEST_STRING" 60, .glo "SORTS", .glo "IndexTree", .glo "InvalidError", .glo "InvalidKey", .glo "InvalidLabel", .glo "InvalidName", .glo "InvalidText", .glo "Label", .glo "LimitError", .glo "MissingError"]
def zFa2 : List He.Fa := [.glo "NoEntry", .glo "TooMany", .glo "told_error", .glo "is_name", .glo "is_integer", .glo "is_value", .glo "is_any_value", .glo "is_key", .glo "value_text", .glo "in_value_order", .glo "want_label", .glo "marks_in_order", .glo "choices", .glo "want_entry", .glo "_law_rng", .glo "_law_draw", .glo "_law_choice", .glo "_law_name", .glo "_law_names", .glo "_law_marks"]
def zFa3 : List He.Fa := [.glo "_law_labels", .glo "_law_below", .glo "_law_label_text", .glo "_law_made_label", .glo "_law_sort", .glo "_law_rank", .glo "_law_some_value", .glo "_law_some_key", .glo "_law_entries", .glo "_law_different", .glo "_law_outcome", .glo "_law_change_right", .glo "_law_stands", .glo "_law_wrong", .glo "_law_right", .glo "law", .cls "Label", .cls "IndexTree", .mkr "Label", .mkr "IndexTree"]
def zFa4 : List He.Fa := [.noat "Label" "own_marks", .noat "IndexTree" "own_values", .noat "IndexTree" "own_places", .meth "Label" "below", .meth "Label" "__str__", .meth "Label" "__repr__", .meth "IndexTree" "put_entry", .meth "IndexTree" "take_entry", .meth "IndexTree" "entries_at", .meth "IndexTree" "steps", .meth "IndexTree" "different", .meth "IndexTree" "__len__", .noat "InvalidLabel" "value", .noat "InvalidLabel" "told_parts", .noat "InvalidKey" "value", .noat "InvalidKey" "told_parts", .noat "NoEntry" "key", .noat "NoEntry" "told_parts"]
def zFa : List He.Fa := zFa0 ++ zFa1 ++ zFa2 ++ zFa3 ++ zFa4
def zFn0 : List He.DefD := [⟨("told_error", none), "told_error", "told_error", defArgs (top 11), defBody (top 11), defScope (top 11), [], []⟩, ⟨("is_name", none), "is_name", "is_name", defArgs (top 24), defBody (top 24), defScope (top 24), [], []⟩, ⟨("is_integer", none), "is_integer", "is_integer", defArgs (top 25), defBody (top 25), defScope (top 25), [], []⟩, ⟨("is_value", none), "is_value", "is_value", defArgs (top 26), defBody (top 26), defScope (top 26), [], [("may_be_empty", .bl false)]⟩, ⟨("is_any_value", none), "is_any_value", "is_any_value", defArgs (top 27), defBody (top 27), defScope (top 27), [], []⟩, ⟨("is_key", none), "is_key", "is_key", defArgs (top 28), defBody (top 28), defScope (top 28), [], []⟩, ⟨("value_text", none), "value_text", "value_text", defArgs (top 29), defBody (top 29), defScope (top 29), [], []⟩, ⟨("in_value_order", none), "in_value_order", "in_value_order", defArgs (top 30), defBody (top 30), defScope (top 30), [], []⟩, ⟨("want_label", none), "want_label", "want_label", defArgs (top 34), defBody (top 34), defScope (top 34), [], []⟩, ⟨("marks_in_order", none), "marks_in_order", "marks_in_order", defArgs (top 35), defBody (top 35), defScope (top 35), [], []⟩, ⟨("choices", none), "choices", "choices", defArgs (top 36), defBody (top 36), defScope (top 36), [], []⟩, ⟨("want_entry", none), "want_entry", "want_entry", defArgs (top 39), defBody (top 39), defScope (top 39), [], []⟩, ⟨("_law_rng", none), "_law_rng", "_law_rng", defArgs (top 42), defBody (top 42), defScope (top 42), [], []⟩, ⟨("_law_draw", none), "_law_draw", "_law_draw", defArgs (top 43), defBody (top 43), defScope (top 43), [], []⟩, ⟨("_law_choice", none), "_law_choice", "_law_choice", defArgs (top 44), defBody (top 44), defScope (top 44), [], []⟩, ⟨("_law_name", none), "_law_name", "_law_name", defArgs (top 45), defBody (top 45), defScope (top 45), [], []⟩, ⟨("_law_names", none), "_law_names", "_law_names", defArgs (top 46), defBody (top 46), defScope (top 46), [], []⟩, ⟨("_law_marks", none), "_law_marks", "_law_marks", defArgs (top 47), defBody (top 47), defScope (top 47), [], []⟩, ⟨("_law_labels", none), "_law_labels", "_law_labels", defArgs (top 48), defBody (top 48), defScope (top 48), [], []⟩, ⟨("_law_below", none), "_law_below", "_law_below", defArgs (top 49), defBody (top 49), defScope (top 49), [], []⟩]
def zFn1 : List He.DefD := [⟨("_law_label_text", none), "_law_label_text", "_law_label_text", defArgs (top 50), defBody (top 50), defScope (top 50), [], []⟩, ⟨("_law_made_label", none), "_law_made_label", "_law_made_label", defArgs (top 51), defBody (top 51), defScope (top 51), [], []⟩, ⟨("_law_sort", none), "_law_sort", "_law_sort", defArgs (top 52), defBody (top 52), defScope (top 52), [], []⟩, ⟨("_law_rank", none), "_law_rank", "_law_rank", defArgs (top 53), defBody (top 53), defScope (top 53), [], []⟩, ⟨("_law_some_value", none), "_law_some_value", "_law_some_value", defArgs (top 54), defBody (top 54), defScope (top 54), [], []⟩, ⟨("_law_some_key", none), "_law_some_key", "_law_some_key", defArgs (top 55), defBody (top 55), defScope (top 55), [], []⟩, ⟨("_law_entries", none), "_law_entries", "_law_entries", defArgs (top 56), defBody (top 56), defScope (top 56), [], []⟩, ⟨("_law_different", none), "_law_different", "_law_different", defArgs (top 57), defBody (top 57), defScope (top 57), [], []⟩, ⟨("_law_outcome", none), "_law_outcome", "_law_outcome", defArgs (top 58), defBody (top 58), defScope (top 58), [], []⟩, ⟨("_law_change_right", none), "_law_change_right", "_law_change_right", defArgs (top 59), defBody (top 59), defScope (top 59), [], []⟩, ⟨("_law_stands", none), "_law_stands", "_law_stands", defArgs (top 60), defBody (top 60), defScope (top 60), [], []⟩, ⟨("_law_wrong", none), "_law_wrong", "_law_wrong", defArgs (top 61), defBody (top 61), defScope (top 61), [], []⟩, ⟨("_law_right", none), "_law_right", "_law_right", defArgs (top 62), defBody (top 62), defScope (top 62), [], []⟩, ⟨("law", none), "law", "law", defArgs (top 63), defBody (top 63), defScope (top 63), [], []⟩, ⟨("Label", some "__init__"), "__init__", "Label.__init__", defArgs (inClass (top 37) 1), defBody (inClass (top 37) 1), defScope (inClass (top 37) 1), [], []⟩, ⟨("IndexTree", some "__init__"), "__init__", "IndexTree.__init__", defArgs (inClass (top 40) 0), defBody (inClass (top 40) 0), defScope (inClass (top 40) 0), [], []⟩, ⟨("Label", some "below"), "below", "Label.below", defArgs (inClass (top 37) 5), defBody (inClass (top 37) 5), defScope (inClass (top 37) 5), [], []⟩, ⟨("Label", some "__str__"), "__str__", "Label.__str__", defArgs (inClass (top 37) 10), defBody (inClass (top 37) 10), defScope (inClass (top 37) 10), [], []⟩, ⟨("Label", some "__repr__"), "__repr__", "Label.__repr__", defArgs (inClass (top 37) 11), defBody (inClass (top 37) 11), defScope (inClass (top 37) 11), [], []⟩, ⟨("IndexTree", some "put_entry"), "put_entry", "IndexTree.put_entry", defArgs (inClass (top 40) 1), defBody (inClass (top 40) 1), defScope (inClass (top 40) 1), [], []⟩]
def zFn2 : List He.DefD := [⟨("IndexTree", some "take_entry"), "take_entry", "IndexTree.take_entry", defArgs (inClass (top 40) 2), defBody (inClass (top 40) 2), defScope (inClass (top 40) 2), [], []⟩, ⟨("IndexTree", some "entries_at"), "entries_at", "IndexTree.entries_at", defArgs (inClass (top 40) 3), defBody (inClass (top 40) 3), defScope (inClass (top 40) 3), [], []⟩, ⟨("IndexTree", some "steps"), "steps", "IndexTree.steps", defArgs (inClass (top 40) 4), defBody (inClass (top 40) 4), defScope (inClass (top 40) 4), [], []⟩, ⟨("IndexTree", some "different"), "different", "IndexTree.different", defArgs (inClass (top 40) 5), defBody (inClass (top 40) 5), defScope (inClass (top 40) 5), [], []⟩, ⟨("IndexTree", some "__len__"), "__len__", "IndexTree.__len__", defArgs (inClass (top 40) 6), defBody (inClass (top 40) 6), defScope (inClass (top 40) 6), [], []⟩]
def zFn : List He.DefD := zFn0 ++ zFn1 ++ zFn2
def zDc0 : DefC := ⟨fun K => cmG K (CL K) "of_text", "of_text", "Label.of_text", inClass (top 37) 2, []⟩
def zDc1 : DefC := ⟨fun K => He.ma K (He.ga K "InvalidLabel") "__init__", "__init__", "InvalidLabel.__init__", inClass (top 4) 0, ["__class__"]⟩
def zDc2 : DefC := ⟨fun K => He.ma K (He.ga K "InvalidKey") "__init__", "__init__", "InvalidKey.__init__", inClass (top 6) 0, ["__class__"]⟩
def zDc3 : DefC := ⟨fun K => He.ma K (He.ga K "NoEntry") "__init__", "__init__", "NoEntry.__init__", inClass (top 8) 0, ["__class__"]⟩
def zDc : List DefC := [zDc0, zDc1, zDc2, zDc3]
def zTf : List He.Defn := [("_law_labels", none), ("_law_entries", none)]
def exB (K : PySem.W.Frag) : Bool := He.tupB K "SORTS" [.str "int", .str "text", .str "truth"] && (crB K (CL K) && (cvB K (CL K) "MOST" (.int 4) && (cmB K (CL K) "of_text" && (fnB K (cmG K (CL K) "of_text") "Label.of_text" && (icB K (CL K) &&
  (xcB K (He.ga K "InvalidLabel") "ValueError" "ValueError.__new__" "ValueError.__init__" bmVe && (xcB K (He.ga K "InvalidKey") "ValueError" "ValueError.__new__" "ValueError.__init__" bmVe && (xcB K (He.ga K "NoEntry") "LookupError" "LookupError.__new__" "LookupError.__init__" bmLe &&
  (xfB K (He.ga K "InvalidLabel") (He.ma K (He.ga K "InvalidLabel") "__init__") prg.main.file "InvalidLabel.__init__" && (xfB K (He.ga K "InvalidKey") (He.ma K (He.ga K "InvalidKey") "__init__") prg.main.file "InvalidKey.__init__" && (xfB K (He.ga K "NoEntry") (He.ma K (He.ga K "NoEntry") "__init__") prg.main.file "NoEntry.__init__" &&
  (xoB K (He.ga K "InvalidLabel") && (xoB K (He.ga K "InvalidKey") && (xoB K (He.ga K "NoEntry") && decide ((He.cT K ("_law_labels", none)).2 ≠ (He.cT K ("_law_entries", none)).2)))))))))))))))
/-- the written part -/
def KX (n : Nat) (g : Addr → Option Obj) : PySem.W.Frag := He.frT g (cStatics :: He.asD g n)
abbrev AlZ : Type := He.AlD × (Bool × List FnC)
def obsK (g : Addr → Option Obj) (K : PySem.W.Frag) : AlZ := (He.obsD zFa zFn K, (exB K && He.tabsB g zTf K, zDc.map fun d => fnC K (d.at_ K)))
def valZ : AlZ := (He.valD zFn, (true, zDc.map DefC.val))
/-- an empty table -/
abbrev tab0 : Obj := { cls := .none, data := .fields #[] }
structure SaysZ (h : Heap) (K : PySem.W.Frag) : Prop where
  d : He.SaysD zFa zFn K
  ex : exB K = true
  hd : ∀ p ∈ zTf, PySem.W.codeHdIn K (He.cT K p).1 (He.cT K p).2 = true
  out : ∀ p ∈ zTf, K.lookup (He.cT K p).2 = none
  empty : ∀ p ∈ zTf, h.get? (He.cT K p).2 = some tab0
  fc : (zDc.map fun d => fnC K (d.at_ K)) = zDc.map DefC.val
theorem saysZ_of {n : Nat} {h : Heap} (e : obsK h.get? (KX n h.get?) = valZ) : SaysZ h (KX n h.get?) := by
  unfold obsK valZ at e
  injection e with e1 e2
  injection e2 with e2 e3
  obtain ⟨e4, e5⟩ := Bool.and_eq_true_iff.mp e2
  have each : ∀ p ∈ zTf, PySem.W.codeHdIn (KX n h.get?) (He.cT (KX n h.get?) p).1 (He.cT (KX n h.get?) p).2 = true ∧ ∃ o, h.get? (He.cT (KX n h.get?) p).2 = some o ∧ He.emptyTab o = true := by
    intro p hp
    have z := List.all_eq_true.mp e5 p hp
    obtain ⟨z1, z2⟩ := Bool.and_eq_true_iff.mp z
    refine ⟨z1, ?_⟩
    cases q : h.get? (He.cT (KX n h.get?) p).2 with
    | none =>
      rw [q] at z2
      exact Bool.noConfusion z2
    | some o =>
      rw [q] at z2
      exact ⟨o, rfl, z2⟩
  constructor
  · exact e1
  · exact e4
  · exact fun p hp => (each p hp).1
  · intro p hp
    obtain ⟨_, o, y1, y2⟩ := each p hp
    exact He.frT_none y1 y2
  · intro p hp
    obtain ⟨_, o, y1, y2⟩ := each p hp
    rw [y1, He.emptyTab_eq y2]
  · exact e3
def hookZ (n : Nat) : PySem.W.Hook where
  α := AlZ
  obs := fun s => obsK s.heap.get? (KX n s.heap.get?)
  val := fun _ => valZ
  says := fun _ h => ∃ K : PySem.W.Frag, K.In h ∧ SaysZ h K
  of := fun _ _ e => ⟨_, He.frT_in, saysZ_of e⟩
  keeps := fun _ _ _ ⟨K, k1, k2⟩ y => ⟨K, PySem.W.Frag.In.keeps k1 y, ⟨k2.d, k2.ex, k2.hd, k2.out, fun p hp => y _ _ (k2.empty p hp), k2.fc⟩⟩
theorem obsZ_eq {n : Nat} {g : Addr → Option Obj} {s : Shared} (h : ∀ a, g a = s.heap.get? a) : obsK g (KX n g) = (hookZ n).obs s := by
  obtain rfl : g = s.heap.get? := funext h
  rfl
end Abv
set_option Elab.async false
set_option linter.all false
set_option maxRecDepth 100000
set_option maxHeartbeats 0
/-! ## The run of the module's top -/
namespace Abv
open PySem PySem.W PySem.Calls PyProof.Rows
abbrev rowR : OpenRow := OpenLaw.row PySem.Challenge.rw_aboveless_k61_whole_index_trees
abbrev viewR : Program := view rowR.prog [63]
def namesA : List PySem.Str := ["_wall", "__name__", "InvalidError", "InvalidName", "InvalidLabel", "InvalidText", "InvalidKey", "MissingError", "NoEntry", "LimitError", "TooMany", "told_error", "INT", "TEXT", "TRUTH", "SORTS", "LETTERS", "QUOTE", "EMPTY_TEXT", "TRUE_TEXT", "FALSE_TEXT", "LONGEST_NAME", "LONGEST_STRING", "is_name", "is_integer", "is_value", "is_any_value", "is_key", "value_text", "in_value_order"]
def namesB : List PySem.Str := ["BETWEEN_MARKS", "NO_MARKS", "want_label", "marks_in_order", "choices", "Label", "want_entry", "IndexTree", "_law_rng", "_law_draw", "_law_choice", "_law_name", "_law_names", "_law_marks", "_law_labels", "_law_below", "_law_label_text", "_law_made_label", "_law_sort", "_law_rank", "_law_some_value", "_law_some_key", "_law_entries", "_law_different", "_law_outcome", "_law_change_right", "_law_stands", "_law_wrong", "_law_right"]
def loose : List PySem.Str := namesA ++ namesB
def obZ (s : SharedT) : AlZ := obsK (HandSHeadRun.getT s) (KX 5 (HandSHeadRun.getT s))
theorem obZ_eq (s : SharedT) : obZ s = (hookZ 5).obs s.abs := obsZ_eq (HandSHeadRun.getT_eq s)
theorem runZ (w : World) : HandSHeadRun.RunEq rowR viewR (hookZ 5) obZ 5000 loose w := by
  intro os
  kernel_rfl
end Abv
set_option Elab.async false
set_option linter.all false
set_option maxRecDepth 100000
set_option maxHeartbeats 4000000
/-! ## What the module holds; a def's promise by its body -/
namespace Abv
open PySem PySem.Spec PyProof.Rows L2
/-- the def st stands under its name x -/
def GF (K : PySem.W.Frag) (mg : Str → Option Value) (x : Str) (st : Stmt) (kws : List (Str × V)) : Prop :=
  mg x = some (.ref (He.ga K x)) ∧ ∃ fd, FunD K x x (defArgs st) (defBody st) (defScope st) [] kws (He.ga K x) fd
/-- the facts of the module's names -/
structure Tx (K : PySem.W.Frag) (mg : Str → Option Value) : Prop where
  b_len : mg "len" = none
  b_abs : mg "abs" = none
  b_max : mg "max" = none
  b_min : mg "min" = none
  b_int : mg "int" = none
  b_bool : mg "bool" = none
  b_divmod : mg "divmod" = none
  b_sorted : mg "sorted" = none
  b_tuple : mg "tuple" = none
  b_all : mg "all" = none
  b_any : mg "any" = none
  b_repr : mg "repr" = none
  b_isinstance : mg "isinstance" = none
  b_enumerate : mg "enumerate" = none
  b_range : mg "range" = none
  b_str : mg "str" = none
  b_list : mg "list" = none
  b_super : mg "super" = none
  c_INT : ∃ u, mg "INT" = some u ∧ RelV (.str "int") u
  c_TEXT : ∃ u, mg "TEXT" = some u ∧ RelV (.str "text") u
  c_TRUTH : ∃ u, mg "TRUTH" = some u ∧ RelV (.str "truth") u
  c_LETTERS : ∃ u, mg "LETTERS" = some u ∧ RelV (.str "abcdefghijklmnopqrstuvwxyz") u
  c_QUOTE : ∃ u, mg "QUOTE" = some u ∧ RelV (.str "'") u
  c_EMPTY_TEXT : ∃ u, mg "EMPTY_TEXT" = some u ∧ RelV (.str "empty") u
  c_TRUE_TEXT : ∃ u, mg "TRUE_TEXT" = some u ∧ RelV (.str "true") u
  c_FALSE_TEXT : ∃ u, mg "FALSE_TEXT" = some u ∧ RelV (.str "false") u
  c_BETWEEN_MARKS : ∃ u, mg "BETWEEN_MARKS" = some u ∧ RelV (.str "+") u
  c_NO_MARKS : ∃ u, mg "NO_MARKS" = some u ∧ RelV (.str "-") u
  c_LONGEST_NAME : ∃ u, mg "LONGEST_NAME" = some u ∧ RelV (.int 8) u
  c_LONGEST_STRING : ∃ u, mg "LONGEST_STRING" = some u ∧ RelV (.int 60) u
  c_SORTS : ∃ u, mg "SORTS" = some u ∧ RelV (.ref (He.ga K "SORTS")) u
  t_SORTS : ∀ H : Hp, SqT K H (He.ga K "SORTS") [.str "int", .str "text", .str "truth"]
  g_IndexTree : mg "IndexTree" = some (.ref (He.ga K "IndexTree"))
  g_InvalidError : mg "InvalidError" = some (.ref (He.ga K "InvalidError"))
  g_InvalidKey : mg "InvalidKey" = some (.ref (He.ga K "InvalidKey"))
  g_InvalidLabel : mg "InvalidLabel" = some (.ref (He.ga K "InvalidLabel"))
  g_InvalidName : mg "InvalidName" = some (.ref (He.ga K "InvalidName"))
  g_InvalidText : mg "InvalidText" = some (.ref (He.ga K "InvalidText"))
  g_Label : mg "Label" = some (.ref (He.ga K "Label"))
  g_LimitError : mg "LimitError" = some (.ref (He.ga K "LimitError"))
  g_MissingError : mg "MissingError" = some (.ref (He.ga K "MissingError"))
  g_NoEntry : mg "NoEntry" = some (.ref (He.ga K "NoEntry"))
  g_TooMany : mg "TooMany" = some (.ref (He.ga K "TooMany"))
  f_told_error : GF K mg "told_error" (top 11) []
  f_is_name : GF K mg "is_name" (top 24) []
  f_is_integer : GF K mg "is_integer" (top 25) []
  f_is_value : GF K mg "is_value" (top 26) [("may_be_empty", .bl false)]
  f_is_any_value : GF K mg "is_any_value" (top 27) []
  f_is_key : GF K mg "is_key" (top 28) []
  f_value_text : GF K mg "value_text" (top 29) []
  f_in_value_order : GF K mg "in_value_order" (top 30) []
  f_want_label : GF K mg "want_label" (top 34) []
  f_marks_in_order : GF K mg "marks_in_order" (top 35) []
  f_choices : GF K mg "choices" (top 36) []
  f_want_entry : GF K mg "want_entry" (top 39) []
  f__law_rng : GF K mg "_law_rng" (top 42) []
  f__law_draw : GF K mg "_law_draw" (top 43) []
  f__law_choice : GF K mg "_law_choice" (top 44) []
  f__law_name : GF K mg "_law_name" (top 45) []
  f__law_names : GF K mg "_law_names" (top 46) []
  f__law_marks : GF K mg "_law_marks" (top 47) []
  f__law_labels : GF K mg "_law_labels" (top 48) []
  f__law_below : GF K mg "_law_below" (top 49) []
  f__law_label_text : GF K mg "_law_label_text" (top 50) []
  f__law_made_label : GF K mg "_law_made_label" (top 51) []
  f__law_sort : GF K mg "_law_sort" (top 52) []
  f__law_rank : GF K mg "_law_rank" (top 53) []
  f__law_some_value : GF K mg "_law_some_value" (top 54) []
  f__law_some_key : GF K mg "_law_some_key" (top 55) []
  f__law_entries : GF K mg "_law_entries" (top 56) []
  f__law_different : GF K mg "_law_different" (top 57) []
  f__law_outcome : GF K mg "_law_outcome" (top 58) []
  f__law_change_right : GF K mg "_law_change_right" (top 59) []
  f__law_stands : GF K mg "_law_stands" (top 60) []
  f__law_wrong : GF K mg "_law_wrong" (top 61) []
  f__law_right : GF K mg "_law_right" (top 62) []
  f_law : GF K mg "law" (top 63) []
section
variable {P : Program} {w : World} {K : PySem.W.Frag} {mg : Str → Option Value} {base : Heap}
/-- a def that lets nothing out, by its body -/
theorem cl0 {x : Str} {st : Stmt} {N ps : List Str} {k : Nat} {sp : Sp} (F : GF K mg x st []) (S : FnScope N ps (defScope st))
    (hbind : ∀ (kV doc pm : Value) (an : Option Addr) (cdv ct : Value) (us : List Value), us.length = ps.length → bindArgs (PySem.W.fnOf x x (defArgs st) (defBody st) (defScope st) .none kV doc pm an cdv ct) ⟨us, []⟩ = pure (ps.zip us))
    (len : ∀ vs H Q E, sp vs H Q E → vs.length = ps.length)
    (hbody : ∀ (f : Addr) (cdv : Value) (A : Around) (outer : List Env) (s : Shared) (H : Hp) (vs : List V) (Q : VK) (E : XK), Room k (A.deeper (envOfC x (defScope st) s.heap.objs.size f cdv)) → sp vs H Q E →
      ∃ t, PSs (cxOf CX0 P w K mg base N x (defScope st) f cdv A outer s H E).nox (defBody st) t ∧ t { nx := fun _ H' => Q .non H', rt := Q } (start N vs) H) :
    Cl CX0 P w K mg base (k + 1) x sp := by
  obtain ⟨hm, fd, F⟩ := F
  refine ⟨He.ga K x, ?_, hm, F.kp⟩
  have G : FnOk P w K mg base CX0 (k + 1) (He.ga K x) fd ps sp := by
    refine F.ok S len ?_
    intro cdv A outer s H vs Q E hr h
    obtain ⟨t, h1, h2⟩ := hbody _ cdv A outer s H vs Q E hr h
    exact ⟨t, h1.nox, h2⟩
  have R := FnOk.raw G (F.bindsN hbind) .nil
  exact R.imp fun vs H Q E q => by rw [List.append_nil]; exact q
/-- a def that may raise -/
theorem clX {x : Str} {st : Stmt} {N ps : List Str} {k : Nat} {sp : Sp} (F : GF K mg x st []) (S : FnScope N ps (defScope st))
    (hbind : ∀ (kV doc pm : Value) (an : Option Addr) (cdv ct : Value) (us : List Value), us.length = ps.length → bindArgs (PySem.W.fnOf x x (defArgs st) (defBody st) (defScope st) .none kV doc pm an cdv ct) ⟨us, []⟩ = pure (ps.zip us))
    (len : ∀ vs H Q E, sp vs H Q E → vs.length = ps.length)
    (hbody : ∀ (f : Addr) (cdv : Value) (A : Around) (outer : List Env) (s : Shared) (H : Hp) (vs : List V) (Q : VK) (E : XK), Room k (A.deeper (envOfC x (defScope st) s.heap.objs.size f cdv)) → sp vs H Q E →
      ∃ t, PSs (cxOf (L2.CX P w) P w K mg base N x (defScope st) f cdv A outer s H E) (defBody st) t ∧ t { nx := fun _ H' => Q .non H', rt := Q } (start N vs) H) :
    Cl (L2.CX P w) P w K mg base (k + 1) x sp := by
  obtain ⟨hm, fd, F⟩ := F
  refine ⟨He.ga K x, ?_, hm, F.kp⟩
  have G : FnOk P w K mg base (L2.CX P w) (k + 1) (He.ga K x) fd ps sp := F.ok S len fun cdv A outer s H vs Q E hr h => hbody _ cdv A outer s H vs Q E hr h
  have R := FnOk.raw G (F.bindsN hbind) .nil
  exact R.imp fun vs H Q E q => by rw [List.append_nil]; exact q
end
end Abv
set_option Elab.async false
set_option linter.all false
set_option maxRecDepth 100000
set_option maxHeartbeats 4000000
/-! ## Frames, list comprehensions by what each turn gives -/
namespace Abv
open PySem PySem.Spec PyProof.Rows L2

/-- what no def of the text changes -/
def Stab : HO → Prop
  | .tup _ => True
  | .ins _ _ _ => True
  | .own _ => True
  | .frz _ _ => True
  | .xd _ => True
  | _ => False
/-- tuples, instances stay -/
def Kt (H H' : Hp) : Prop := ∀ b o, H b = some o → Stab o → H' b = some o
theorem Kt.refl (H : Hp) : Kt H H := fun _ _ h _ => h
theorem Kt.trans {H H1 H2 : Hp} (a : Kt H H1) (b : Kt H1 H2) : Kt H H2 := fun c o h s => b c o (a c o h s) s
theorem Kt.of {H H' : Hp} (e : Same H H') : Kt H H' := fun b o h _ => e b o h
theorem Kt.upd {H : Hp} {a : Addr} {u : HO} (h : ∀ o, H a = some o → ¬ Stab o) : Kt H (L2.upd H a u) := fun b o e s => by
  have hb : b ≠ a := by
    rintro rfl
    exact h o e s
  rw [upd_ne hb]
  exact e
theorem Kt.seqT {K : PySem.W.Frag} {H H' : Hp} {a : Addr} {xs : List V} (e : Kt H H') (h : SqT K H a xs) : SqT K H' a xs := by
  rcases h with (h | ⟨o, h⟩) | h
  · exact .inl (.inl (e _ _ h True.intro))
  · exact .inl (.inr ⟨o, e _ _ h True.intro⟩)
  · exact .inr h
theorem Same.upd {H H' : Hp} {a : Addr} {u : HO} (e : Same H H') (h : H a = none) : Same H (upd H' a u) := fun b o q => by
  rw [upd_ne (ne_of_none q h)]
  exact e b o q
theorem Same.new {H : Hp} {a : Addr} {u : HO} (h : H a = none) : Same H (L2.upd H a u) := Same.upd (Same.refl H) h

mutual
/-- no list within -/
def noL : Dt → Bool
  | .lst _ => false
  | .tup ds => noLA ds
  | _ => true
def noLA : List Dt → Bool
  | [] => true
  | d :: ds => noL d && noLA ds
end

section
variable {K : PySem.W.Frag} {C : Addr} {H H' : Hp}
mutual
theorem Rp.kt (e : Kt H H') : ∀ (d : Dt) (v : V), noL d = true → Rp K C H d v → Rp K C H' d v
  | .non, v, _, h => h
  | .bl b, v, _, h => h
  | .int i, v, _, h => h
  | .str s, v, _, h => h
  | .lst ds, v, n, h => by cases n
  | .tup ds, v, n, h => by
    unfold Rp at h ⊢
    obtain ⟨a, xs, h1, h2, h3⟩ := h
    exact ⟨a, xs, h1, e.seqT h2, RpA.kt e ds xs n h3⟩
  | .lab ms, v, _, h => by
    unfold Rp at h ⊢
    obtain ⟨a, dx, t, h1, h2, h3⟩ := h
    exact ⟨a, dx, t, h1, e _ _ h2 True.intro, e.seqT h3⟩
theorem RpA.kt (e : Kt H H') : ∀ (ds : List Dt) (vs : List V), noLA ds = true → RpA K C H ds vs → RpA K C H' ds vs
  | [], vs, _, h => h
  | d :: ds, vs, n, h => by
    unfold RpA at h ⊢
    obtain ⟨v, r, h1, h2, h3⟩ := h
    have n1 : (noL d && noLA ds) = true := n
    rw [Bool.and_eq_true] at n1
    exact ⟨v, r, h1, Rp.kt e d v n1.1 h2, RpA.kt e ds r n1.2 h3⟩
end
theorem RpA.append : ∀ {ds es : List Dt} {vs us : List V}, RpA K C H ds vs → RpA K C H es us → RpA K C H (ds ++ es) (vs ++ us)
  | [], es, vs, us, h, h' => by
    unfold RpA at h
    subst h
    exact h'
  | d :: ds, es, vs, us, h, h' => by
    unfold RpA at h
    obtain ⟨v, r, rfl, h2, h3⟩ := h
    show RpA K C H (d :: (ds ++ es)) (v :: (r ++ us))
    unfold RpA
    exact ⟨v, r ++ us, rfl, h2, RpA.append h3 h'⟩
theorem RpA.one {d : Dt} {v : V} (h : Rp K C H d v) : RpA K C H [d] [v] := by
  unfold RpA
  exact ⟨v, [], rfl, h, by unfold RpA; rfl⟩
theorem RpA.nil : RpA K C H [] [] := by
  unfold RpA
  rfl
theorem RpA.cons {d : Dt} {ds : List Dt} {v : V} {vs : List V} (h : Rp K C H d v) (t : RpA K C H ds vs) : RpA K C H (d :: ds) (v :: vs) := by
  unfold RpA
  exact ⟨v, vs, rfl, h, t⟩
theorem RpA.len : ∀ {ds : List Dt} {vs : List V}, RpA K C H ds vs → vs.length = ds.length
  | [], vs, h => by
    unfold RpA at h
    subst h
    rfl
  | d :: ds, vs, h => by
    unfold RpA at h
    obtain ⟨v, r, rfl, h2, h3⟩ := h
    rw [List.length_cons, List.length_cons, RpA.len h3]
theorem RpA.get : ∀ {ds : List Dt} {vs : List V} {i : Nat} {v : V}, RpA K C H ds vs → vs[i]? = some v → ∃ d, ds[i]? = some d ∧ Rp K C H d v
  | [], vs, i, v, h, e => by
    unfold RpA at h
    subst h
    simp at e
  | d :: ds, vs, i, v, h, e => by
    unfold RpA at h
    obtain ⟨u, r, rfl, h2, h3⟩ := h
    cases i with
    | zero =>
      simp at e
      subst e
      exact ⟨d, rfl, h2⟩
    | succ i =>
      obtain ⟨d', e1, e2⟩ := RpA.get (i := i) h3 (by simpa using e)
      exact ⟨d', by simpa using e1, e2⟩
theorem noLA_append : ∀ {ds es : List Dt}, noLA ds = true → noLA es = true → noLA (ds ++ es) = true
  | [], es, _, h => h
  | d :: ds, es, h, h' => by
    have n1 : (noL d && noLA ds) = true := h
    rw [Bool.and_eq_true] at n1
    show (noL d && noLA (ds ++ es)) = true
    rw [Bool.and_eq_true]
    exact ⟨n1.1, noLA_append n1.2 h'⟩
theorem noLA_one {d : Dt} (h : noL d = true) : noLA [d] = true := by
  show (noL d && true) = true
  rw [h]
  rfl
theorem noLA_of : ∀ {ds : List Dt}, (∀ d ∈ ds, noL d = true) → noLA ds = true
  | [], _ => rfl
  | d :: ds, h => by
    show (noL d && noLA ds) = true
    rw [Bool.and_eq_true]
    exact ⟨h d (List.mem_cons_self ..), noLA_of fun e he => h e (List.mem_cons_of_mem _ he)⟩
end

/-- a frame: what a run from H1 keeps -/
structure Fm (M : Hp → Hp → Prop) (H1 : Hp) : Prop where
  refl : M H1 H1
  step : ∀ H H', M H1 H → M H H' → M H1 H'
  mu : ∀ H D o, M H1 H → H1 D = none → M H1 (upd H D o)
  new : ∀ H H' D xs, M H1 H → H1 D = none → H D = some (.lst xs) → M H H' → H' D = some (.lst xs)
  kt : ∀ H H', M H H' → Kt H H'
theorem fmSame (H1 : Hp) : Fm Same H1 :=
  ⟨Same.refl H1, fun _ _ a b => a.trans b, fun _ _ _ a h => Same.upd a h, fun _ _ _ _ _ _ e b => b _ _ e, fun _ _ e => Kt.of e⟩

section
variable {K : PySem.W.Frag} {C : Addr}
/-- the list made so far -/
def LcI (M : Hp → Hp → Prop) (K : PySem.W.Frag) (C : Addr) (H1 : Hp) (D : Addr) (f : Nat → Option Dt) (i : Nat) (H : Hp) : Prop :=
  M H1 H ∧ ∃ ys, H D = some (.lst ys) ∧ RpA K C H ((List.range i).filterMap f) ys
theorem filterMap_le (f : Nat → Option Dt) (i : Nat) : ((List.range i).filterMap f).length ≤ i := by
  have h := List.length_filterMap_le f (List.range i)
  rw [List.length_range] at h
  exact h
theorem fm_succ (f : Nat → Option Dt) (i : Nat) : (List.range (i + 1)).filterMap f = (List.range i).filterMap f ++ (f i).toList := by
  rw [List.range_succ, List.filterMap_append]
  cases h : f i with
  | none => simp [h]
  | some d => simp [h]
/-- a list comprehension by its turns: f i is what turn i gives (none: it is left out) -/
theorem lcJ {M : Hp → Hp → Prop} {J : It} {n : Nat} {g : TG} {tt : TT} {te : TE} {vs : List Nat} {σ : L2.St} {H1 : Hp} {D : Addr} {Qd : Hp → Prop} (Y : Nat → V → Hp → Prop) (f : Nat → Option Dt) (F : Fm M H1) (nD : H1 D = none) (hn : n ≤ 100000)
    (hgo : ∀ i H, i < n → M H1 H → J.go i H) (hstop : ∀ H, M H1 H → J.stop n H) (hy : ∀ i H x H', i < n → M H1 H → J.yld i H x H' → M H H' ∧ Y i x H') (hf : ∀ i d, i < n → f i = some d → noL d = true)
    (hs : ∀ i x H (R : Hp → Prop) (S : V → Hp → Prop), i < n → M H1 H → Y i x H → (∀ H', M H H' → f i = none → R H') → (∀ y H' d, M H H' → f i = some d → Rp K C H' d y → S y H') →
      g x (wipe σ vs) H fun σ2 H2 => wipe σ2 vs = wipe σ vs ∧ tt σ2 H2 fun b H3 => if b = true then te σ2 H3 S else R H3)
    (hd : ∀ H ys, M H1 H → H D = some (.lst ys) → RpA K C H ((List.range n).filterMap f) ys → Qd H) :
    ∃ W : Nat → Nat → Hp → Prop, (∃ m, W 0 m (upd H1 D (.lst []))) ∧ ∀ i m H, W i m H →
      (J.stop i H ∧ Qd H) ∨ (J.go i H ∧ ∃ Nx : Hp → Prop, (∀ H', Nx H' → ∃ m', m' < m ∧ W (i + 1) m' H') ∧ ∀ x H', J.yld i H x H' → g x (wipe σ vs) H' fun σ2 H2 => wipe σ2 vs = wipe σ vs ∧ tt σ2 H2 fun b H3 =>
        if b = true then te σ2 H3 fun y H4 => ∃ acc, H4 D = some (.lst acc) ∧ acc.length < sizeLine ∧ Nx (upd H4 D (.lst (acc ++ [y]))) else Nx H3) := by
  have nl : ∀ i, i ≤ n → noLA ((List.range i).filterMap f) = true := fun i hi => noLA_of fun d hd => by
    obtain ⟨j, hj, e⟩ := List.mem_filterMap.mp hd
    exact hf j d (by have := List.mem_range.mp hj; omega) e
  refine ⟨fun i m H => m = n - i ∧ i ≤ n ∧ LcI M K C H1 D f i H, ⟨n, rfl, Nat.zero_le _, F.mu _ _ _ F.refl nD, [], upd_same, by simpa using RpA.nil⟩, ?_⟩
  rintro i m H ⟨rfl, hi, hM, ys, hD, hr⟩
  by_cases hlt : i < n
  · refine Or.inr ⟨hgo i H hlt hM, LcI M K C H1 D f (i + 1), fun H' q => ⟨n - (i + 1), by omega, rfl, by omega, q⟩, fun x H' hyl => ?_⟩
    obtain ⟨hM', hY⟩ := hy i H x H' hlt hM hyl
    have hM1 := F.step _ _ hM hM'
    have hD' := F.new _ _ _ _ hM nD hD hM'
    have hr' := RpA.kt (F.kt _ _ hM') _ _ (nl i hi) hr
    refine hs i x H' _ _ hlt hM1 hY (fun H2 h2 e => ?_) (fun y H2 d h2 e hy2 => ?_)
    · refine ⟨F.step _ _ hM1 h2, ys, F.new _ _ _ _ hM1 nD hD' h2, ?_⟩
      rw [fm_succ, e]
      simpa using RpA.kt (F.kt _ _ h2) _ _ (nl i hi) hr'
    · have hD2 := F.new _ _ _ _ hM1 nD hD' h2
      have hM2 := F.step _ _ hM1 h2
      have hr2 := RpA.kt (F.kt _ _ h2) _ _ (nl i hi) hr'
      have hk : Kt H2 (upd H2 D (.lst (ys ++ [y]))) := Kt.upd fun o eo so => by
        rw [hD2] at eo
        cases eo
        exact so
      refine ⟨ys, hD2, ?_, F.mu _ _ _ hM2 nD, ys ++ [y], upd_same, ?_⟩
      · have := hr.len
        have := filterMap_le f i
        rw [sizeLine_eq]
        omega
      · rw [fm_succ, e]
        exact RpA.append (RpA.kt hk _ _ (nl i hi) hr2) (RpA.one (Rp.kt hk _ _ (hf i d hlt e) hy2))
  · have : i = n := by omega
    subst this
    exact Or.inl ⟨hstop H hM, hd H ys hM hD hr⟩
/-- over a list -/
theorem lcL {M : Hp → Hp → Prop} {a : Addr} {xs : List V} {g : TG} {tt : TT} {te : TE} {vs : List Nat} {σ : L2.St} {H1 : Hp} {D : Addr} {Qd : Hp → Prop} (f : Nat → Option Dt) (F : Fm M H1) (nD : H1 D = none) (hn : xs.length ≤ 100000)
    (hl : ∀ H, M H1 H → SqL K H a xs) (hf : ∀ i d, i < xs.length → f i = some d → noL d = true)
    (hs : ∀ i x H (R : Hp → Prop) (S : V → Hp → Prop), xs[i]? = some x → M H1 H → (∀ H', M H H' → f i = none → R H') → (∀ y H' d, M H H' → f i = some d → Rp K C H' d y → S y H') →
      g x (wipe σ vs) H fun σ2 H2 => wipe σ2 vs = wipe σ vs ∧ tt σ2 H2 fun b H3 => if b = true then te σ2 H3 S else R H3)
    (hd : ∀ H ys, M H1 H → H D = some (.lst ys) → RpA K C H ((List.range xs.length).filterMap f) ys → Qd H) (hr : ∀ H, M H1 H → M H H) :
    ∃ W : Nat → Nat → Hp → Prop, (∃ m, W 0 m (upd H1 D (.lst []))) ∧ ∀ i m H, W i m H →
      ((Itl K a).stop i H ∧ Qd H) ∨ ((Itl K a).go i H ∧ ∃ Nx : Hp → Prop, (∀ H', Nx H' → ∃ m', m' < m ∧ W (i + 1) m' H') ∧ ∀ x H', (Itl K a).yld i H x H' → g x (wipe σ vs) H' fun σ2 H2 => wipe σ2 vs = wipe σ vs ∧ tt σ2 H2 fun b H3 =>
        if b = true then te σ2 H3 fun y H4 => ∃ acc, H4 D = some (.lst acc) ∧ acc.length < sizeLine ∧ Nx (upd H4 D (.lst (acc ++ [y]))) else Nx H3) := by
  refine lcJ (K := K) (C := C) (n := xs.length) (fun i x _ => xs[i]? = some x) f F nD hn (fun i H hi hM => ?_) (fun H hM => ?_) (fun i H x H' hi hM hy => ?_) hf (fun i x H R S _ hM hx => hs i x H R S hx hM) hd
  · exact ⟨xs, _, hl H hM, List.getElem?_eq_getElem hi⟩
  · exact ⟨xs, hl H hM, Nat.le_refl _⟩
  · obtain ⟨rfl, q⟩ := hy
    exact ⟨hr _ hM, q xs (hl _ hM)⟩
/-- over a tuple -/
theorem lcT {M : Hp → Hp → Prop} {a : Addr} {xs : List V} {g : TG} {tt : TT} {te : TE} {vs : List Nat} {σ : L2.St} {H1 : Hp} {D : Addr} {Qd : Hp → Prop} (f : Nat → Option Dt) (F : Fm M H1) (nD : H1 D = none) (hn : xs.length ≤ 100000)
    (hl : ∀ H, M H1 H → SqT K H a xs) (hf : ∀ i d, i < xs.length → f i = some d → noL d = true)
    (hs : ∀ i x H (R : Hp → Prop) (S : V → Hp → Prop), xs[i]? = some x → M H1 H → (∀ H', M H H' → f i = none → R H') → (∀ y H' d, M H H' → f i = some d → Rp K C H' d y → S y H') →
      g x (wipe σ vs) H fun σ2 H2 => wipe σ2 vs = wipe σ vs ∧ tt σ2 H2 fun b H3 => if b = true then te σ2 H3 S else R H3)
    (hd : ∀ H ys, M H1 H → H D = some (.lst ys) → RpA K C H ((List.range xs.length).filterMap f) ys → Qd H) (hr : ∀ H, M H1 H → M H H) :
    ∃ W : Nat → Nat → Hp → Prop, (∃ m, W 0 m (upd H1 D (.lst []))) ∧ ∀ i m H, W i m H →
      ((Itt K a).stop i H ∧ Qd H) ∨ ((Itt K a).go i H ∧ ∃ Nx : Hp → Prop, (∀ H', Nx H' → ∃ m', m' < m ∧ W (i + 1) m' H') ∧ ∀ x H', (Itt K a).yld i H x H' → g x (wipe σ vs) H' fun σ2 H2 => wipe σ2 vs = wipe σ vs ∧ tt σ2 H2 fun b H3 =>
        if b = true then te σ2 H3 fun y H4 => ∃ acc, H4 D = some (.lst acc) ∧ acc.length < sizeLine ∧ Nx (upd H4 D (.lst (acc ++ [y]))) else Nx H3) := by
  refine lcJ (K := K) (C := C) (n := xs.length) (fun i x _ => xs[i]? = some x) f F nD hn (fun i H hi hM => ?_) (fun H hM => ?_) (fun i H x H' hi hM hy => ?_) hf (fun i x H R S _ hM hx => hs i x H R S hx hM) hd
  · exact ⟨xs, _, hl H hM, List.getElem?_eq_getElem hi⟩
  · exact ⟨xs, hl H hM, Nat.le_refl _⟩
  · obtain ⟨rfl, q⟩ := hy
    exact ⟨hr _ hM, q xs (hl _ hM)⟩
/-- over a text -/
theorem lcS {M : Hp → Hp → Prop} {x : Str} {g : TG} {tt : TT} {te : TE} {vs : List Nat} {σ : L2.St} {H1 : Hp} {D : Addr} {Qd : Hp → Prop} (f : Nat → Option Dt) (F : Fm M H1) (nD : H1 D = none) (hn : x.cps.size ≤ 100000)
    (hf : ∀ i d, i < x.cps.size → f i = some d → noL d = true)
    (hs : ∀ i c H (R : Hp → Prop) (S : V → Hp → Prop), x.cps[i]? = some c → M H1 H → (∀ H', M H H' → f i = none → R H') → (∀ y H' d, M H H' → f i = some d → Rp K C H' d y → S y H') →
      g (.str ⟨#[c]⟩) (wipe σ vs) H fun σ2 H2 => wipe σ2 vs = wipe σ vs ∧ tt σ2 H2 fun b H3 => if b = true then te σ2 H3 S else R H3)
    (hd : ∀ H ys, M H1 H → H D = some (.lst ys) → RpA K C H ((List.range x.cps.size).filterMap f) ys → Qd H) (hr : ∀ H, M H1 H → M H H) :
    ∃ W : Nat → Nat → Hp → Prop, (∃ m, W 0 m (upd H1 D (.lst []))) ∧ ∀ i m H, W i m H →
      ((Its x).stop i H ∧ Qd H) ∨ ((Its x).go i H ∧ ∃ Nx : Hp → Prop, (∀ H', Nx H' → ∃ m', m' < m ∧ W (i + 1) m' H') ∧ ∀ z H', (Its x).yld i H z H' → g z (wipe σ vs) H' fun σ2 H2 => wipe σ2 vs = wipe σ vs ∧ tt σ2 H2 fun b H3 =>
        if b = true then te σ2 H3 fun y H4 => ∃ acc, H4 D = some (.lst acc) ∧ acc.length < sizeLine ∧ Nx (upd H4 D (.lst (acc ++ [y]))) else Nx H3) := by
  refine lcJ (K := K) (C := C) (n := x.cps.size) (fun i z _ => ∃ c, x.cps[i]? = some c ∧ z = .str ⟨#[c]⟩) f F nD hn (fun i H hi _ => hi) (fun H _ => Nat.le_refl _) (fun i H z H' _ hM hy => ?_) hf (fun i z H R S _ hM hz => ?_) hd
  · obtain ⟨rfl, q⟩ := hy
    exact ⟨hr _ hM, q⟩
  · obtain ⟨c, hc, rfl⟩ := hz
    exact hs i c H R S hc hM
/-- over a range -/
theorem lcR {M : Hp → Hp → Prop} {n : Nat} {g : TG} {tt : TT} {te : TE} {vs : List Nat} {σ : L2.St} {H1 : Hp} {D : Addr} {Qd : Hp → Prop} (f : Nat → Option Dt) (F : Fm M H1) (nD : H1 D = none) (hn : n ≤ 100000)
    (hf : ∀ i d, i < n → f i = some d → noL d = true)
    (hs : ∀ (i : Nat) H (R : Hp → Prop) (S : V → Hp → Prop), i < n → M H1 H → (∀ H', M H H' → f i = none → R H') → (∀ y H' d, M H H' → f i = some d → Rp K C H' d y → S y H') →
      g (.int (i : Int)) (wipe σ vs) H fun σ2 H2 => wipe σ2 vs = wipe σ vs ∧ tt σ2 H2 fun b H3 => if b = true then te σ2 H3 S else R H3)
    (hd : ∀ H ys, M H1 H → H D = some (.lst ys) → RpA K C H ((List.range n).filterMap f) ys → Qd H) (hr : ∀ H, M H1 H → M H H) :
    ∃ W : Nat → Nat → Hp → Prop, (∃ m, W 0 m (upd H1 D (.lst []))) ∧ ∀ i m H, W i m H →
      ((Itr 0 n).stop i H ∧ Qd H) ∨ ((Itr 0 n).go i H ∧ ∃ Nx : Hp → Prop, (∀ H', Nx H' → ∃ m', m' < m ∧ W (i + 1) m' H') ∧ ∀ z H', (Itr 0 n).yld i H z H' → g z (wipe σ vs) H' fun σ2 H2 => wipe σ2 vs = wipe σ vs ∧ tt σ2 H2 fun b H3 =>
        if b = true then te σ2 H3 fun y H4 => ∃ acc, H4 D = some (.lst acc) ∧ acc.length < sizeLine ∧ Nx (upd H4 D (.lst (acc ++ [y]))) else Nx H3) := by
  refine lcJ (K := K) (C := C) (n := n) (fun i z _ => z = .int (i : Int)) f F nD hn (fun i H hi _ => hi) (fun H _ => Nat.le_refl _) (fun i H z H' _ hM hy => ?_) hf (fun i z H R S hi hM hz => ?_) hd
  · obtain ⟨rfl, q⟩ := hy
    exact ⟨hr _ hM, by rw [q, Int.zero_add]⟩
  · subst hz
    exact hs i H R S hi hM
end
/-- no test -/
theorem yes_go {te : TE} {S : VK} {R : Hp → Prop} {σ2 : L2.St} {H : Hp} (h : te σ2 H S) : tYes σ2 H fun b H3 => if b = true then te σ2 H3 S else R H3 := by
  show if true = true then te σ2 H S else R H
  rw [if_pos rfl]
  exact h
/-! ### what comes out -/
theorem fm_list {α : Type} (xs : List α) (F : α → Option Dt) : (List.range xs.length).filterMap (fun i => (xs[i]?).bind F) = xs.filterMap F := by
  induction xs with
  | nil => rfl
  | cons x r ih =>
    rw [List.length_cons, List.range_succ_eq_map, List.filterMap_cons, List.filterMap_map]
    have e : ((fun i => ((x :: r)[i]?).bind F) ∘ Nat.succ) = fun i => (r[i]?).bind F := by
      funext i
      simp
    rw [e, ih]
    simp only [List.getElem?_cons_zero, Option.bind_some, List.filterMap_cons]
theorem fm_map {α β : Type} (xs : List α) (F : α → β) : xs.filterMap (fun x => some (F x)) = xs.map F := by
  induction xs with
  | nil => rfl
  | cons x r ih => rw [List.filterMap_cons, ih, List.map_cons]
section
variable {K : PySem.W.Frag} {C : Addr} {H : Hp}
theorem RpA.bls : ∀ {bs : List Bool} {ys : List V}, RpA K C H (bs.map Dt.bl) ys → ys = bs.map V.bl
  | [], ys, h => by
    unfold List.map RpA at h
    exact h
  | b :: bs, ys, h => by
    rw [List.map_cons] at h
    unfold RpA at h
    obtain ⟨v, r, rfl, h2, h3⟩ := h
    have e : v = V.bl b := h2
    rw [e, RpA.bls h3, List.map_cons]
theorem RpA.strs : ∀ {bs : List Str} {ys : List V}, RpA K C H (bs.map Dt.str) ys → ys = bs.map V.str
  | [], ys, h => by
    unfold List.map RpA at h
    exact h
  | b :: bs, ys, h => by
    rw [List.map_cons] at h
    unfold RpA at h
    obtain ⟨v, r, rfl, h2, h3⟩ := h
    have e : v = V.str b := h2
    rw [e, RpA.strs h3, List.map_cons]
theorem RpA.strs' : ∀ (bs : List Str), RpA K C H (bs.map Dt.str) (bs.map V.str)
  | [] => RpA.nil
  | b :: bs => RpA.cons (show V.str b = V.str b from rfl) (RpA.strs' bs)
end
/-! ### types of data -/
def tyN : Dt → String
  | .non => "NoneType"
  | .bl _ => "bool"
  | .int _ => "int"
  | .str _ => "str"
  | .lst _ => "list"
  | .tup _ => "tuple"
  | .lab _ => "object"
/-- no label; texts not too long -/
def pln : Dt → Bool
  | .str s => decide (s.length ≤ 1000)
  | .lab _ => false
  | _ => true
def isI : Dt → Bool
  | .int _ => true
  | .bl _ => true
  | _ => false
def isB : Dt → Bool
  | .bl _ => true
  | _ => false
def isS : Dt → Bool
  | .str _ => true
  | _ => false
section
variable {K : PySem.W.Frag} {C : Addr} {H : Hp}
theorem tyD {d : Dt} {v : V} (h : Rp K C H d v) (p : pln d = true) : TyX K H v (.type (tyN d)) := by
  cases d with
  | non =>
    obtain rfl : v = .non := h
    exact .base .non
  | bl b =>
    obtain rfl : v = .bl b := h
    exact .base (.bl b)
  | int i =>
    obtain rfl : v = .int i := h
    exact .base (.int i)
  | str s =>
    obtain rfl : v = .str s := h
    exact .base (.str s)
  | lst ds =>
    unfold Rp at h
    obtain ⟨a, xs, rfl, h, _⟩ := h
    rcases h with (h | ⟨o, h⟩) | ⟨o, its, n, h, hc, _⟩
    · exact .base (.lst h)
    · exact .base (.frz h)
    · exact .kList h hc
  | tup ds =>
    unfold Rp at h
    obtain ⟨a, xs, rfl, h, _⟩ := h
    rcases h with (h | ⟨o, h⟩) | ⟨o, its, n, h, hc, _⟩
    · exact .base (.tup h)
    · exact .fTuple h
    · exact .kTuple h hc
  | lab ms => cases p
theorem kitI {d : Dt} (p : pln d = true) : PySem.W.kitOne K (.type (tyN d)) (.type "int") = some (isI d) := by
  cases d with
  | lab ms => cases p
  | non => exact kit_ty (by decide +kernel)
  | bl b => exact kit_ty (show kitB "bool" "int" = some true by decide +kernel)
  | int i => exact kit_ty (show kitB "int" "int" = some true by decide +kernel)
  | str s => exact kit_ty (show kitB "str" "int" = some false by decide +kernel)
  | lst ds => exact kit_ty (show kitB "list" "int" = some false by decide +kernel)
  | tup ds => exact kit_ty (show kitB "tuple" "int" = some false by decide +kernel)
theorem kitBo {d : Dt} (p : pln d = true) : PySem.W.kitOne K (.type (tyN d)) (.type "bool") = some (isB d) := by
  cases d with
  | lab ms => cases p
  | non => exact kit_ty (show kitB "NoneType" "bool" = some false by decide +kernel)
  | bl b => exact kit_ty (show kitB "bool" "bool" = some true by decide +kernel)
  | int i => exact kit_ty (show kitB "int" "bool" = some false by decide +kernel)
  | str s => exact kit_ty (show kitB "str" "bool" = some false by decide +kernel)
  | lst ds => exact kit_ty (show kitB "list" "bool" = some false by decide +kernel)
  | tup ds => exact kit_ty (show kitB "tuple" "bool" = some false by decide +kernel)
theorem kitS {d : Dt} (p : pln d = true) : PySem.W.kitOne K (.type (tyN d)) (.type "str") = some (isS d) := by
  cases d with
  | lab ms => cases p
  | non => exact kit_ty (show kitB "NoneType" "str" = some false by decide +kernel)
  | bl b => exact kit_ty (show kitB "bool" "str" = some false by decide +kernel)
  | int i => exact kit_ty (show kitB "int" "str" = some false by decide +kernel)
  | str s => exact kit_ty (show kitB "str" "str" = some true by decide +kernel)
  | lst ds => exact kit_ty (show kitB "list" "str" = some false by decide +kernel)
  | tup ds => exact kit_ty (show kitB "tuple" "str" = some false by decide +kernel)
end
end Abv
set_option Elab.async false
set_option linter.all false
set_option maxRecDepth 100000
/-! ## Orders of texts -/
namespace Abv
open PySem PySem.Spec PyProof.Rows L2
/-- texts by their signs -/
def sle (a b : Str) : Prop := a.cps.toList ≤ b.cps.toList
instance (a b : Str) : Decidable (sle a b) := by unfold sle; infer_instance
theorem sle_refl (a : Str) : sle a a := List.le_refl _
theorem sle_trans {a b c : Str} (h : sle a b) (h' : sle b c) : sle a c := List.le_trans h h'
theorem sle_total (a b : Str) : sle a b ∨ sle b a := List.le_total _ _
theorem str_ext {a b : Str} (h : a.cps.toList = b.cps.toList) : a = b := by
  cases a with
  | mk x =>
    cases b with
    | mk y =>
      have : x = y := Array.toList_inj.mp h
      rw [this]
theorem sle_antisymm {a b : Str} (h : sle a b) (h' : sle b a) : a = b := str_ext (List.le_antisymm h h')
theorem sle_iff (a b : Str) : sle a b ↔ ¬ b.cps.toList < a.cps.toList := Iff.rfl
/-- strictly ahead -/
def slt (a b : Str) : Prop := a.cps.toList < b.cps.toList
instance (a b : Str) : Decidable (slt a b) := by unfold slt; infer_instance
theorem slt_iff (a b : Str) : slt a b ↔ sle a b ∧ a ≠ b := by
  constructor
  · intro h
    refine ⟨List.le_of_lt h, ?_⟩
    rintro rfl
    exact List.lt_irrefl _ h
  · rintro ⟨h, ne⟩
    rcases Decidable.em (slt a b) with q | q
    · exact q
    · exact absurd (sle_antisymm h q) ne
theorem rising_pair : ∀ (l : List Str) (p : Str), risingS p l = true → (∀ x ∈ l, sle p x) ∧ l.Pairwise sle
  | [], p, _ => ⟨fun x h => (by cases h), List.Pairwise.nil⟩
  | x :: r, p, h => by
    have h1 : (!ltCps x.cps.toList p.cps.toList && risingS x r) = true := h
    rw [Bool.and_eq_true, Bool.not_eq_true', ltCps_eq, decide_eq_false_iff_not] at h1
    obtain ⟨h2, h3⟩ := h1
    obtain ⟨h4, h5⟩ := rising_pair r x h3
    have h6 : sle p x := h2
    refine ⟨fun y hy => ?_, List.pairwise_cons.mpr ⟨h4, h5⟩⟩
    rcases List.mem_cons.mp hy with rfl | hy
    · exact h6
    · exact sle_trans h6 (h4 y hy)
theorem sorted_pair {l : List Str} (h : sortedS l = true) : l.Pairwise sle := by
  cases l with
  | nil => exact List.Pairwise.nil
  | cons x r =>
    obtain ⟨h4, h5⟩ := rising_pair r x h
    exact List.pairwise_cons.mpr ⟨h4, h5⟩
/-- two lists in one order, of the same members: the same -/
theorem perm_unique {α : Type} {r : α → α → Prop} (as : ∀ a b, r a b → r b a → a = b) : ∀ {l l' : List α}, l.Perm l' → l.Pairwise r → l'.Pairwise r → l = l'
  | [], l', p, _, _ => (List.nil_perm.mp p).symm
  | x :: t, [], p, _, _ => absurd p.length_eq (by simp)
  | x :: t, y :: u, p, h, h' => by
    rw [List.pairwise_cons] at h h'
    have exy : x = y := by
      rcases List.mem_cons.mp (p.mem_iff.mp (List.mem_cons_self (a := x) (l := t))) with e | e
      · exact e
      rcases List.mem_cons.mp (p.mem_iff.mpr (List.mem_cons_self (a := y) (l := u))) with e2 | e2
      · exact e2.symm
      exact as x y (h.1 y e2) (h'.1 x e)
    subst exy
    rw [perm_unique as (List.Perm.cons_inv p) h.2 h'.2]
theorem str_len_append (a b : Str) : (a ++ b).length = a.length + b.length := by
  show (a.cps ++ b.cps).size = _
  rw [Array.size_append]
  rfl
end Abv
set_option Elab.async false
set_option linter.all false
set_option maxRecDepth 100000
set_option maxHeartbeats 4000000
/-! ## Rules: is of a bool, sorting of a tuple of texts, equal texts -/
namespace Abv
open PySem PySem.Spec PyProof.Rows L2
section
variable {X : Cx}
/-- x is True, x is False: x any flat value -/
def rIsBo : R2 := fun x y H Q => ∃ b : Bool, y = .bl b ∧ flatV x = true ∧ Q (.bl (decide (x = .bl b))) H
theorem op_isBo : OpR X (compareOp .Is) rIsBo := by
  intro pins s σ H x y v u Q I rx ry h
  obtain ⟨b, rfl, fx, q⟩ := h
  obtain rfl : u = Value.bool b := ry
  have fin : ∀ c : Bool, c = decide (x = V.bl b) → EP X pins σ Q (.bool c) s := fun c e => ⟨.bl c, H, I, rfl, by rw [e]; exact q⟩
  cases x with
  | non =>
    obtain rfl : v = Value.none := rx
    exact wpAny_bind (wpAny_pure (wpAny_pure (fin _ rfl)))
  | bl c =>
    obtain rfl : v = Value.bool c := rx
    refine wpAny_bind (wpAny_pure (wpAny_pure (fin _ ?_)))
    cases b <;> cases c <;> rfl
  | int i =>
    obtain ⟨t, rfl⟩ := rx
    exact wpAny_bind (wpAny_pure (wpAny_pure (fin _ rfl)))
  | str z =>
    obtain ⟨t, rfl⟩ := rx
    exact wpAny_bind (wpAny_pure (wpAny_pure (fin _ rfl)))
  | byt _ => cases fx
  | flt _ => cases fx
  | ref _ => cases fx
  | ty _ => cases fx
end
/-! ### rules, told of the written part K itself -/
section
variable {X : Cx} {K : PySem.W.Frag} {a b e l : Expr} {es : List Expr} {ta tb te tl : TE} {t : TA} {f : Str} {pos : Pos} {tg : Expr}
theorem isiK (h : X.K = K := by rfl) : CallR X (.builtin "isinstance") (rIsi K) := by
  subst h
  exact call_isi
def rLenK (K : PySem.W.Frag) : List V → Hp → VK → Prop := fun xs H Q => ∃ x n, xs = [x] ∧ LenV K x H n ∧ Q (.int n) H
theorem lenK (h : X.K = K := by rfl) : CallR X (.builtin "len") (rLenK K) := by
  subst h
  exact call_len
theorem anyK (hc : X.calm = true := by rfl) (h : X.K = K := by rfl) : CallR X (.builtin "any") (rAny K) := by
  subst h
  exact cr_any hc
theorem allK (hc : X.calm = true := by rfl) (h : X.K = K := by rfl) : CallR X (.builtin "all") (rAll K) := by
  subst h
  exact cr_all hc
theorem srtS (h : X.K = K := by rfl) : CallR X (.builtin "sorted") (rSortedS K) := by
  subst h
  exact cr_sortedS
theorem srtI (h : X.K = K := by rfl) : CallR X (.builtin "sorted") (rSortedI K) := by
  subst h
  exact cr_sortedI
theorem ixL (h : X.K = K := by rfl) : IxR X (rIxL K) := by
  subst h
  exact ix_list
theorem ixT (h : X.K = K := by rfl) : IxR X (rIxT K) := by
  subst h
  exact ix_tup
theorem inQ (h : X.K = K := by rfl) : OpR X (compareOp .In) (rIn K false) := by
  subst h
  exact op_in_seq
theorem niQ (h : X.K = K := by rfl) : OpR X (compareOp .NotIn) (rIn K true) := by
  subst h
  exact op_notIn_seq
theorem eqD (hu : X.A.units + 64 < cLine) (h : X.K = K := by rfl) : OpR X (compareOp .Eq) (rEqD K) := by
  subst h
  exact op_eqD hu
theorem neD (hu : X.A.units + 64 < cLine) (h : X.K = K := by rfl) : OpR X (compareOp .NotEq) (rNeD K) := by
  subst h
  exact op_neD hu
theorem catT (h : X.K = K := by rfl) : OpR X (binaryOp .Add) (rCatA K) := by
  subst h
  exact op_catA
def rListOf (K : PySem.W.Frag) : List V → Hp → VK → Prop := fun xs H Q => ∃ p ys, xs = [.ref p] ∧ (SqL K H p ys ∨ SqT K H p ys) ∧ ∀ l, H l = none → Q (.ref l) (upd H l (.lst ys))
theorem listOf (h : X.K = K := by rfl) : CallR X (.type "list") (rListOf K) := by
  subst h
  exact call_list_of
def rTupOf (K : PySem.W.Frag) : List V → Hp → VK → Prop := fun xs H Q => ∃ p ys, xs = [.ref p] ∧ ((SqL K H p ys ∧ ∀ l, H l = none → Q (.ref l) (upd H l (.tup ys))) ∨ (SqT K H p ys ∧ Q (.ref p) H))
theorem tupOf (h : X.K = K := by rfl) : CallR X (.type "tuple") (rTupOf K) := by
  subst h
  exact call_tuple_of
theorem pe_fldK (he : PE X e ta) (hb : attributeBase e f X.env (eval e X.env) = eval e X.env := by rfl) (h : X.K = K := by rfl) : PE X (.Attribute e f pos) (tFld K ta f) := by
  subst h
  exact pe_fld he hb
theorem pi_listK (hl : PE X l tl) (h : X.K = K := by rfl) : PI X tg l (iList K tl) := by
  subst h
  exact pi_list hl
theorem pi_tupK (hl : PE X l tl) (h : X.K = K := by rfl) : PI X tg l (iTup K tl) := by
  subst h
  exact pi_tup hl
theorem pi_enumK {elts : List Expr} {kk : Nat} {tpos p : Pos} (hg : Gl X "enumerate") (hm : X.mg "enumerate" = none) (ha : PA X [e] t) (hs : starEach [e] X.env = [(false, eval e X.env)] := by rfl) (h : X.K = K := by rfl) :
    PI X (.Tuple elts kk tpos) (.Call (.Name "enumerate" p) [e] [] pos) (iEnum K t) := by
  subst h
  exact pi_enum hg hm ha hs
def rJoinK (K : PySem.W.Frag) : V → List V → Hp → VK → Prop := fun x xs H Q => ∃ a p, ∃ ys : List Str, x = .str a ∧ xs = [.ref p] ∧ (SqL K H p (ys.map V.str) ∨ SqT K H p (ys.map V.str)) ∧
  (ys.map (·.length)).sum + ys.length * a.length ≤ 16777216 ∧ Q (.str (Txt.join a ys)) H
theorem pe_joinK {o : Expr} {to : TE} {apos : Pos} (ho : PE X o to) (he : PE X e te) (hs : starEach [e] X.env = [(false, eval e X.env)] := by rfl) (hbase : attributeBase o "join" X.env (eval o X.env) = eval o X.env := by rfl) (hline : (apos.endLine == pos.line) = true := by rfl) (h : X.K = K := by rfl) :
    PE X (.Call (.Attribute o "join" apos) [e] [] pos) (tM1 (rJoinK K) to te) := by
  subst h
  exact pe_join ho he hs hbase hline
theorem pe_bmK {T id : String} {name : Str} {o : Expr} {to : TE} {apos : Pos} {r : V → List V → Hp → VK → Prop} (pa : PlainAttrs T) (slot : Slot T name id) (hty : typeOf (.builtin id) = pure (.type "method_descriptor")) (hm : MtR X id r) (ho : PE X o to) (ha : PA X (e :: es) t)
    (hbase : attributeBase o name X.env (eval o X.env) = eval o X.env := by rfl)
    (hfew : ((backTo pos (starEach (e :: es) X.env)).all (fun x => !x.1) && (backToKw pos (keywordEach [] X.env)).all (fun x => x.1.isSome)
      && decide ((e :: es).length + ([] : List Keyword).length + (if ([] : List Keyword).isEmpty then 0 else 1) < 30)) = true := by rfl)
    (hline : (apos.endLine == pos.line) = true := by rfl) (hs : starEach (e :: es) X.env = (false, eval e X.env) :: starEach es X.env := by rfl) (hplain : (backTo pos (starEach es X.env)).any (·.1) = false := by rfl) (h : X.K = K := by rfl) :
    PE X (.Call (.Attribute o name apos) (e :: es) [] pos) (tBM K T r to t) := by
  subst h
  exact pe_bm pa slot hty hm ho ha hbase hfew hline hs hplain
theorem mt_indexK (h : X.K = K := by rfl) : MtR X "list.index" (rIndex K) := by
  subst h
  exact mt_index
theorem slL (h : X.K = K := by rfl) : SlR X (rSlL K) := by
  subst h
  exact sl_list
end
end Abv
set_option Elab.async false
set_option linter.all false
set_option maxRecDepth 100000
set_option maxHeartbeats 4000000
/-! ## Nested comprehensions; data as the library's; labels made -/
namespace Abv
open PySem PySem.Spec PyProof.Rows L2
/-! ### comprehensions, clause by clause -/
/-- the list D that is being made holds ds -/
structure LcX (M : Hp → Hp → Prop) (K : PySem.W.Frag) (C : Addr) (H1 : Hp) (D : Addr) (ds : List Dt) (H : Hp) : Prop where
  fr : M H1 H
  nl : noLA ds = true
  at_ : ∃ ys, H D = some (.lst ys) ∧ RpA K C H ds ys
section
variable {M : Hp → Hp → Prop} {K : PySem.W.Frag} {C : Addr} {H1 H H' : Hp} {D : Addr} {ds : List Dt}
theorem LcX.nil (F : Fm M H1) (nD : H1 D = none) : LcX M K C H1 D [] (upd H1 D (.lst [])) := ⟨F.mu _ _ _ F.refl nD, rfl, [], upd_same, RpA.nil⟩
theorem LcX.go (F : Fm M H1) (nD : H1 D = none) (x : LcX M K C H1 D ds H) (h : M H H') : LcX M K C H1 D ds H' := by
  obtain ⟨ys, h1, h2⟩ := x.at_
  exact ⟨F.step _ _ x.fr h, x.nl, ys, F.new _ _ _ _ x.fr nD h1 h, RpA.kt (F.kt _ _ h) _ _ x.nl h2⟩
/-- one more item -/
theorem LcX.app {d : Dt} {y : V} (F : Fm M H1) (nD : H1 D = none) (x : LcX M K C H1 D ds H) (nd : noL d = true) (r : Rp K C H d y) (hl : ds.length < 1000000) :
    ∃ acc, H D = some (.lst acc) ∧ acc.length < sizeLine ∧ LcX M K C H1 D (ds ++ [d]) (upd H D (.lst (acc ++ [y]))) := by
  obtain ⟨ys, h1, h2⟩ := x.at_
  have hk : Kt H (upd H D (.lst (ys ++ [y]))) := Kt.upd fun o eo so => by
    rw [h1] at eo
    cases eo
    exact so
  refine ⟨ys, h1, ?_, F.mu _ _ _ x.fr nD, noLA_append x.nl (noLA_one nd), ys ++ [y], upd_same, ?_⟩
  · rw [h2.len, sizeLine_eq]
    omega
  · exact RpA.append (RpA.kt hk _ _ x.nl h2) (RpA.one (Rp.kt hk _ _ nd r))
/-- a clause of n turns: turn i adds f i -/
theorem lcC {J : It} {n : Nat} {Nx : Hp → Prop} {T : Nat → V → Hp → (Hp → Prop) → Prop} (F : Fm M H1) (nD : H1 D = none) (Y : Nat → V → Hp → Prop) (f : Nat → List Dt) (x0 : LcX M K C H1 D ds H)
    (hgo : ∀ i H, i < n → M H1 H → J.go i H) (hstop : ∀ H, M H1 H → J.stop n H) (hy : ∀ i H x H', i < n → M H1 H → J.yld i H x H' → M H H' ∧ Y i x H')
    (hs : ∀ i x H (R : Hp → Prop), i < n → Y i x H → LcX M K C H1 D (ds ++ (List.range i).flatMap f) H → (∀ H', LcX M K C H1 D ((ds ++ (List.range i).flatMap f) ++ f i) H' → R H') → T i x H R)
    (hd : ∀ H, LcX M K C H1 D (ds ++ (List.range n).flatMap f) H → Nx H) :
    ∃ W : Nat → Nat → Hp → Prop, (∃ m, W 0 m H) ∧ ∀ i m H, W i m H →
      (J.stop i H ∧ Nx H) ∨ (J.go i H ∧ ∃ N : Hp → Prop, (∀ H', N H' → ∃ m', m' < m ∧ W (i + 1) m' H') ∧ ∀ x H', J.yld i H x H' → T i x H' N) := by
  refine ⟨fun i m H => m = n - i ∧ i ≤ n ∧ LcX M K C H1 D (ds ++ (List.range i).flatMap f) H, ⟨n, rfl, Nat.zero_le _, by simpa using x0⟩, ?_⟩
  rintro i m H ⟨rfl, hi, x⟩
  by_cases hlt : i < n
  · refine Or.inr ⟨hgo i H hlt x.fr, LcX M K C H1 D (ds ++ (List.range (i + 1)).flatMap f), fun H' q => ⟨n - (i + 1), by omega, rfl, by omega, q⟩, fun v H' hyl => ?_⟩
    obtain ⟨h2, hY⟩ := hy i H v H' hlt x.fr hyl
    refine hs i v H' _ hlt hY (x.go F nD h2) fun H2 x2 => ?_
    have e : ds ++ (List.range (i + 1)).flatMap f = (ds ++ (List.range i).flatMap f) ++ f i := by
      rw [List.range_succ, List.flatMap_append, List.append_assoc]
      simp
    rw [e]
    exact x2
  · have : i = n := by omega
    subst this
    exact Or.inl ⟨hstop H x.fr, hd H x⟩
end
/-! ### data of the library -/
mutual
def toPy : Dt → PyData
  | .non => .none
  | .bl b => .bool b
  | .int i => .int i
  | .str s => .str s
  | .lst ds => .list (toPyA ds)
  | .tup ds => .tuple (toPyA ds)
  | .lab _ => .none
def toPyA : List Dt → List PyData
  | [] => []
  | d :: ds => toPy d :: toPyA ds
end
mutual
/-- no label within -/
def noB : Dt → Bool
  | .lab _ => false
  | .lst ds => noBA ds
  | .tup ds => noBA ds
  | _ => true
def noBA : List Dt → Bool
  | [] => true
  | d :: ds => noB d && noBA ds
end
section
variable {K : PySem.W.Frag} {C : Addr} {H : Hp}
mutual
theorem Rp.dp : ∀ (d : Dt) (v : V), noB d = true → Rp K C H d v → Dp K H v (toPy d)
  | .non, v, _, h => by
    obtain rfl : v = .non := h
    exact .non
  | .bl b, v, _, h => by
    obtain rfl : v = .bl b := h
    exact .bl b
  | .int i, v, _, h => by
    obtain rfl : v = .int i := h
    exact .int i
  | .str s, v, _, h => by
    obtain rfl : v = .str s := h
    exact .str s
  | .lst ds, v, n, h => by
    unfold Rp at h
    obtain ⟨a, xs, rfl, h2, h3⟩ := h
    exact .lst h2 (RpA.dp ds xs n h3)
  | .tup ds, v, n, h => by
    unfold Rp at h
    obtain ⟨a, xs, rfl, h2, h3⟩ := h
    exact .tup h2 (RpA.dp ds xs n h3)
  | .lab ms, v, n, h => by cases n
theorem RpA.dp : ∀ (ds : List Dt) (vs : List V), noBA ds = true → RpA K C H ds vs → DpAll K H vs (toPyA ds)
  | [], vs, _, h => by
    unfold RpA at h
    subst h
    exact .nil
  | d :: ds, vs, n, h => by
    unfold RpA at h
    obtain ⟨v, r, rfl, h2, h3⟩ := h
    have n1 : (noB d && noBA ds) = true := n
    rw [Bool.and_eq_true] at n1
    exact .cons (Rp.dp d v n1.1 h2) (RpA.dp ds r n1.2 h3)
end
theorem Rp.tupI {a : Addr} {xs : List V} {ds : List Dt} (h : SqT K H a xs) (r : RpA K C H ds xs) : Rp K C H (.tup ds) (.ref a) := by
  unfold Rp
  exact ⟨a, xs, rfl, h, r⟩
theorem Rp.lstI {a : Addr} {xs : List V} {ds : List Dt} (h : SqL K H a xs) (r : RpA K C H ds xs) : Rp K C H (.lst ds) (.ref a) := by
  unfold Rp
  exact ⟨a, xs, rfl, h, r⟩
end
/-- a tuple of texts -/
def tS (ms : List Str) : Dt := .tup (ms.map Dt.str)
theorem noLA_strs : ∀ ms : List Str, noLA (ms.map Dt.str) = true
  | [] => rfl
  | m :: ms => by
    show (true && noLA (ms.map Dt.str)) = true
    rw [noLA_strs ms]
    rfl
theorem noBA_strs : ∀ ms : List Str, noBA (ms.map Dt.str) = true
  | [] => rfl
  | m :: ms => by
    show (true && noBA (ms.map Dt.str)) = true
    rw [noBA_strs ms]
    rfl
section
variable {K : PySem.W.Frag} {C : Addr} {H : Hp}
theorem Rp.tS_at {ms : List Str} {v : V} (h : Rp K C H (tS ms) v) : ∃ a, v = .ref a ∧ SqT K H a (ms.map V.str) := by
  unfold tS Rp at h
  obtain ⟨a, xs, rfl, h2, h3⟩ := h
  rw [RpA.strs h3] at h2
  exact ⟨a, rfl, h2⟩
theorem Rp.tS_of {ms : List Str} {a : Addr} (h : SqT K H a (ms.map V.str)) : Rp K C H (tS ms) (.ref a) := Rp.tupI h (RpA.strs' ms)
end
theorem inV_strs (m : Str) : ∀ l : List Str, inV (.str m) (l.map V.str) = decide (m ∈ l)
  | [] => rfl
  | x :: l => by
    show ((x == m) || inV (.str m) (l.map V.str)) = _
    rw [inV_strs m l]
    by_cases h : x = m
    · subst h
      simp
    · have h' : ¬ m = x := fun e => h e.symm
      have e : (x == m) = false := beq_eq_false_iff_ne.mpr h
      rw [e, Bool.false_or]
      by_cases h2 : m ∈ l
      · simp [h2]
      · simp [h2, h']
theorem all_flat_strs (l : List Str) : (l.map V.str).all flatV = true := by
  rw [List.all_map]
  simp only [List.all_eq_true]
  intro x _
  rfl
/-! ### what is walked: a list or a tuple -/
/-- Pr says: at a stands xs, as a list or as a tuple -/
def SeqP (K : PySem.W.Frag) (a : Addr) (xs : List V) (Pr : Hp → Prop) : Prop := Pr = (fun H => SqL K H a xs) ∨ Pr = fun H => SqT K H a xs
theorem SeqP.of {K : PySem.W.Frag} {a : Addr} {xs : List V} {H : Hp} (h : SqL K H a xs ∨ SqT K H a xs) : ∃ Pr, SeqP K a xs Pr ∧ Pr H := by
  rcases h with h | h
  · exact ⟨_, .inl rfl, h⟩
  · exact ⟨_, .inr rfl, h⟩
theorem SeqP.same {K : PySem.W.Frag} {a : Addr} {xs : List V} {Pr : Hp → Prop} {H H' : Hp} (p : SeqP K a xs Pr) (e : Same H H') (h : Pr H) : Pr H' := by
  rcases p with rfl | rfl
  · exact e.seq h
  · exact Same.seqT e h
/-- J hands out xs while Pr stays -/
structure SeqJ (Pr : Hp → Prop) (xs : List V) (J : It) : Prop where
  go : ∀ i H, Pr H → i < xs.length → J.go i H
  stop : ∀ H, Pr H → J.stop xs.length H
  yld : ∀ i H x H', Pr H → J.yld i H x H' → H' = H ∧ xs[i]? = some x
def iSeq (K : PySem.W.Frag) (tl : TE) : TI := fun σ H R => tl σ H fun x H1 => ∃ a xs Pr, x = .ref a ∧ SeqP K a xs Pr ∧ Pr H1 ∧ ∀ J, SeqJ Pr xs J → R J H1
theorem seqJ_l {K : PySem.W.Frag} {a : Addr} {xs : List V} : SeqJ (fun H => SqL K H a xs) xs (Itl K a) :=
  ⟨fun i H h hi => ⟨xs, _, h, List.getElem?_eq_getElem hi⟩, fun H h => ⟨xs, h, Nat.le_refl _⟩, fun i H x H' h y => ⟨y.1, y.2 xs h⟩⟩
theorem seqJ_t {K : PySem.W.Frag} {a : Addr} {xs : List V} : SeqJ (fun H => SqT K H a xs) xs (Itt K a) :=
  ⟨fun i H h hi => ⟨xs, _, h, List.getElem?_eq_getElem hi⟩, fun H h => ⟨xs, h, Nat.le_refl _⟩, fun i H x H' h y => ⟨y.1, y.2 xs h⟩⟩
theorem pi_seq {X : Cx} {K : PySem.W.Frag} {tg l : Expr} {tl : TE} (hl : PE X l tl) (h : X.K = K := by rfl) : PI X tg l (iSeq K tl) := by
  subst h
  constructor
  intro pins s σ H R I q
  refine thn (hl.run pins s σ H _ I q) ?_
  rintro v s1 ⟨x, H1, I1, r1, a, xs, Pr, rfl, hp, hq, k⟩
  obtain rfl : v = Value.ref a := r1
  have fp : ∀ b ∈ [s1.heap.objs.size], _ := fun b hb => (show b = s1.heap.objs.size by simpa using hb) ▸ I1.fpOk (Nat.le_refl _) (I1.hok.fresh (Nat.le_refl _))
  rcases hp with rfl | rfl
  · obtain ⟨its, rv, p, hz⟩ := I1.list hq
    refine wpAny_pyIter_list p.isList ?_
    exact ⟨s1.heap.objs.size, [s1.heap.objs.size], _, _, H1, rfl, I1.kept (t' := s1.toks) fun b o e => Heap.get?_push_of_some _ e, turn_list a _, ⟨_, Heap.get?_push_size _ rfl, rfl, rfl⟩, fp, k _ seqJ_l⟩
  · obtain ⟨its, rv, p, hz⟩ := I1.tuple hq
    refine wpAny_pyIter_tuple (show s1.heap.IsTuple a its.toArray from p) ?_
    exact ⟨s1.heap.objs.size, [s1.heap.objs.size], _, _, H1, rfl, I1.kept (t' := s1.toks) fun b o e => Heap.get?_push_of_some _ e, turn_tuple a _, ⟨_, Heap.get?_push_size _ rfl, rfl, rfl⟩, fp, k _ seqJ_t⟩
/-- a for loop over n items -/
theorem forJ {J : It} {g : TG} {tb : TS} {D : Ends} {σ : L2.St} {H : Hp} (n : Nat) (Pv : Nat → L2.St → Hp → Prop) (h0 : Pv 0 σ H) (hgo : ∀ i σ H, i < n → Pv i σ H → J.go i H) (hstop : ∀ σ H, Pv n σ H → J.stop n H)
    (hs : ∀ i x σ H H', i < n → Pv i σ H → J.yld i H x H' → g x σ H' fun σ2 H2 => tb { D with nx := Pv (i + 1), ct := Pv (i + 1), bk := D.nx } σ2 H2) (hd : ∀ σ H, Pv n σ H → D.nx σ H) :
    ∃ W : Nat → Nat → L2.St → Hp → Prop, (∃ m, W 0 m σ H) ∧ ∀ i m σ H, W i m σ H →
      (J.stop i H ∧ D.nx σ H) ∨ (J.go i H ∧ ∃ N : L2.St → Hp → Prop, (∀ σ' H', N σ' H' → ∃ m', m' < m ∧ W (i + 1) m' σ' H') ∧ ∀ x H', J.yld i H x H' → g x σ H' fun σ2 H2 => tb { D with nx := N, ct := N, bk := D.nx } σ2 H2) := by
  refine ⟨fun i m σ H => m = n - i ∧ i ≤ n ∧ Pv i σ H, ⟨n, rfl, Nat.zero_le _, h0⟩, ?_⟩
  rintro i m σ H ⟨rfl, hi, p⟩
  by_cases hlt : i < n
  · exact Or.inr ⟨hgo i σ H hlt p, Pv (i + 1), fun σ' H' q => ⟨n - (i + 1), by omega, rfl, by omega, q⟩, fun x H' hy => hs i x σ H H' hlt p hy⟩
  · have : i = n := by omega
    subst this
    exact Or.inl ⟨hstop σ H p, hd σ H p⟩
end Abv
set_option Elab.async false
set_option linter.all false
set_option maxRecDepth 100000
set_option maxHeartbeats 4000000
/-! ## What the module's classes hold; labels made -/
namespace Abv
open PySem PySem.Spec PyProof.Rows L2
/-- the class of trees -/
def CT (K : PySem.W.Frag) : Addr := He.ga K "IndexTree"
/-- a def of the class Cn's body -/
def DF (K : PySem.W.Frag) (f : Addr) (m qual : Str) (st : Stmt) : Prop := ∃ fd, FunD K m qual (defArgs st) (defBody st) (defScope st) [] [] f fd
/-- the method m of the class C -/
def MF (K : PySem.W.Frag) (C : Addr) (m qual : Str) (st : Stmt) : Prop := Meth K C m (He.ma K C m) ∧ DF K (He.ma K C m) m qual st
/-- what isinstance asks of an own class -/
structure IsC (K : PySem.W.Frag) (C : Addr) : Prop where
  ha : PySem.W.findIn K (.ref C) "__class__" = some (some (.builtin "object.__class__"))
  hn : PySem.W.specialIn K (.builtin "object.__class__") "__get__" = some (some (.builtin "getset_descriptor.__get__"))
  ht : PySem.W.takesIn K (.builtin "object.__class__") = some true
  hm : PySem.W.mroIn K C (.type "object") = some true
  me : PySem.W.kitOne K (.ref C) (.ref C) = some true
  no : ∀ t ∈ ["NoneType", "str", "int"], PySem.W.kitOne K (.type t) (.ref C) = some false
/-- the method m of C, read off the class -/
structure CmF (K : PySem.W.Frag) (C : Addr) (m qual : Str) (st : Stmt) : Prop where
  ex : ∃ (p g : Addr), ClX.CMet K C (.type "type") m p g ∧ DF K g m qual st
/-- the facts of Label and IndexTree -/
structure Ty (K : PySem.W.Frag) : Prop where
  cL : Cls K (CL K)
  cT : Cls K (CT K)
  mkL : Mk K (CL K) (He.ma K (CL K) "__init__")
  mkT : Mk K (CT K) (He.ma K (CT K) "__init__")
  iL : DF K (He.ma K (CL K) "__init__") "__init__" "Label.__init__" (inClass (top 37) 1)
  iT : DF K (He.ma K (CT K) "__init__") "__init__" "IndexTree.__init__" (inClass (top 40) 0)
  aM : NoAttr K (CL K) "own_marks"
  aV : NoAttr K (CT K) "own_values"
  aP : NoAttr K (CT K) "own_places"
  rL : ClX.CRead K (CL K) (.type "type")
  most : ∃ u, ClX.CVal K (CL K) (.type "type") "MOST" (.int 4) u
  ofText : CmF K (CL K) "of_text" "Label.of_text" (inClass (top 37) 2)
  below : MF K (CL K) "below" "Label.below" (inClass (top 37) 5)
  lstr : MF K (CL K) "__str__" "Label.__str__" (inClass (top 37) 10)
  lrepr : MF K (CL K) "__repr__" "Label.__repr__" (inClass (top 37) 11)
  put : MF K (CT K) "put_entry" "IndexTree.put_entry" (inClass (top 40) 1)
  take : MF K (CT K) "take_entry" "IndexTree.take_entry" (inClass (top 40) 2)
  entries : MF K (CT K) "entries_at" "IndexTree.entries_at" (inClass (top 40) 3)
  steps : MF K (CT K) "steps" "IndexTree.steps" (inClass (top 40) 4)
  different : MF K (CT K) "different" "IndexTree.different" (inClass (top 40) 5)
  tlen : MF K (CT K) "__len__" "IndexTree.__len__" (inClass (top 40) 6)
  isL : IsC K (CL K)
/-! ### labels -/
/-- a name -/
def NameOk (s : Str) : Prop := 1 ≤ s.length ∧ s.length ≤ 8 ∧ ∀ c ∈ s.cps.toList, 97 ≤ c ∧ c ≤ 122
/-- the marks of a label -/
structure LblOk (ms : List Str) : Prop where
  srt : ms.Pairwise fun a b => a.cps.toList < b.cps.toList
  nm : ∀ m ∈ ms, NameOk m
  le : ms.length ≤ 4
/-- Label's __init__ with its marks behind it -/
def spLabI (K : PySem.W.Frag) : Sp := fun vs H Q _ => ∃ (x dx : Addr) (ms : List Str), vs = .ref x :: ms.map V.str ∧ H x = some (.ins (CL K) dx []) ∧ LblOk ms ∧
  ∀ H' t, (∀ b o, H b = some o → b ≠ x → H' b = some o) → H' x = some (.ins (CL K) dx [("own_marks", .ref t)]) → SqT K H' t (ms.map V.str) → Q .non H'
/-- the making of a label -/
def tMkL (K : PySem.W.Frag) (tf te : TE) : TE := fun σ H Q => tf σ H fun f H0 => f = .ref (CL K) ∧ te σ H0 fun y H1 => ∃ a ms, y = .ref a ∧ (SqT K H1 a (ms.map V.str) ∨ SqL K H1 a (ms.map V.str)) ∧ LblOk ms ∧
  ∀ x H2, Same H1 H2 → Rp K (CL K) H2 (.lab ms) (.ref x) → H1 x = none → Q (.ref x) H2
theorem pe_mkL {X : Cx} {K : PySem.W.Frag} {k : Nat} {f : Addr} {x : Str} {e : Expr} {tf te : TE} {p sp_ pos : Pos} (hK : X.K = K) (M : Mk K (CL K) f) (F : FnR X.prog X.w X.K X.mg X.base CX0 k f (spLabI K)) (hr : Room (k + 1) X.A) (hf : PE X (.Name x p) tf) (he : PE X e te)
    (hst : starEach [.Starred e sp_] X.env = [(true, eval e X.env)] := by rfl) : PE X (.Call (.Name x p) [.Starred e sp_] [] pos) (tMkL K tf te) := by
  subst hK
  constructor
  intro pins s σ H Q I h
  refine wpAny_Call_Name_kw (thn (hf.run pins s σ H _ I h) ?_)
  rintro u s1 ⟨v, H1, I1, r1, hv, h1⟩
  subst hv
  obtain rfl : u = Value.ref (CL X.K) := r1
  refine PySem.W.callWith_S (h₀ := X.base) I.ok.mod.kin M.kp (thn (he.run pins s1 σ H1 _ I1 h1) ?_) hst
  rintro v s2 ⟨y, H2, I2, ry, a, ms, ey, hx, ok, k⟩
  subst ey
  obtain rfl : v = Value.ref a := ry
  refine StX.star_any I2 hx fun us s3 I3 rv => ⟨I3.kIn, ?_⟩
  refine StX.run_makeR (E := E0) M F hr pass0 I3 rv fun x dx nx ndx ne => ?_
  refine ⟨x, dx, ms, rfl, upd_same, ok, fun H' t kp ex et => ⟨rfl, ?_⟩⟩
  refine k x H' (fun b o eb => kp b o ?_ (ne_of_none eb nx)) ?_ nx
  · rw [upd_ne (ne_of_none eb nx), upd_ne (ne_of_none eb ndx)]
    exact eb
  · unfold Rp
    exact ⟨x, dx, t, rfl, ex, et⟩
end Abv
set_option Elab.async false
set_option linter.all false
set_option maxRecDepth 100000
set_option maxHeartbeats 4000000
/-! ## values.py -/
namespace Abv
open PySem PySem.Spec PyProof.Rows L2
section
variable {P : Program} {w : World} {K : PySem.W.Frag} {mg : Str → Option Value} {base : Heap}
/-! ### is_name -/
abbrev s_is_name : Stmt := top 24
abbrev n_is_name : List Str := ["value", "letter"]
theorem sc_is_name : FnScope n_is_name ["value"] (defScope s_is_name) := ⟨rfl, rfl, rfl, by decide +kernel, rfl, by decide +kernel, by decide +kernel⟩
theorem letters_all : ∀ c, 97 ≤ c ∧ c ≤ 122 → c ∈ (Str.ofString "abcdefghijklmnopqrstuvwxyz").cps.toList := by
  intro c hc
  have e : (Str.ofString "abcdefghijklmnopqrstuvwxyz").cps.toList = (List.range 26).map (· + 97) := by decide +kernel
  rw [e]
  exact List.mem_map.mpr ⟨c - 97, List.mem_range.mpr (by omega), by omega⟩
def sp_is_name : Sp := fun vs H Q _ => ∃ s : Str, vs = [.str s] ∧ NameOk s ∧ ∀ H', Same H H' → Q (.bl true) H'
theorem ok_is_name (T : Tx K mg) : Cl CX0 P w K mg base 1 "is_name" sp_is_name := by
  refine cl0 T.f_is_name sc_is_name (fun _ _ _ _ _ _ us hl => match us, hl with | [_], _ => rfl) (fun vs H Q E h => ?_) (fun f cdv A outer s H vs Q E hr h => ?_)
  · obtain ⟨s, rfl, _⟩ := h
    rfl
  obtain ⟨s, rfl, hs, k⟩ := h
  refine ⟨_, (pss_cons (ps_if (PW.pt (pw_or (pt_not (pt_val (pe_callB (id := "isinstance") (isiK (K := K)) (by rfl) T.b_isinstance (by decide +kernel) (pa_cons (pv 0) (pa_cons (pe_bltn (v := .ty "str") rfl T.b_str (by decide +kernel) rfl) pa_nil))))) (pw_or1 (pt_not (pt_chain op_le op_le pe_int (pe_callB (id := "len") (lenK (K := K)) (by rfl) T.b_len (by decide +kernel) (pa_cons (pv 0) pa_nil)) (C8.pe_gc rfl T.c_LONGEST_NAME)))))) (pss_one (ps_ret pe_bl)) pss_nil)
      (pss_one (ps_ret (pe_callB (id := "all") (allK (K := K)) (by rfl) T.b_all (by decide +kernel) (pa_cons (pe_lc (own := [("letter", 1)]) rfl sc_is_name.nd (pi_str (pv 0)) (blkOk_by (own := [("letter", 1)]) (N := n_is_name) (sc := defScope s_is_name) (by decide +kernel)) (fun _ _ _ _ _ => (pg_name (i := 1) sc_is_name.nd rfl (Or.inl rfl))) (fun _ _ _ _ _ => pts_nil) (fun _ _ _ _ _ => (pe_cmpR op_in_sign (pv 1) (C8.pe_gc rfl T.c_LETTERS) (by rfl)))) pa_nil))))), ?_⟩
  have hl : s.length ≤ sizeLine := by rw [sizeLine_eq]; have := hs.2.1; omega
  refine ⟨_, rfl, _, _, _, _, true, rfl, .ty _, .base (.str _), kit_ty (by decide +kernel), _, rfl, ?_⟩
  refine iteF ?_
  refine ⟨_, rfl, _, s.length, rfl, ⟨hl, rfl⟩, _, _, rfl, rfl, _, rfl, ?_⟩
  have h1 : (1 : Int) ≤ (s.length : Int) := by have := hs.1; omega
  have h2 : (s.length : Int) ≤ 8 := by have := hs.2.1; omega
  rw [decide_eq_true h1]
  refine iteT ?_
  refine ⟨_, _, rfl, rfl, _, rfl, ?_⟩
  rw [decide_eq_true h2]
  refine iteF ?_
  refine ⟨_, rfl, s, rfl, fun D nD => lcS (K := K) (C := 0) (fun _ => some (.bl true)) (fmSame H) nD (by have := hs.2.1; show s.length ≤ _; omega) (fun i d _ e => by cases e; rfl) (fun i c H1 R S hc hM _ hS => ?_) (fun H1 ys hM hD hy => ?_) (fun H1 _ => Same.refl H1)⟩
  · refine ⟨rfl, yes_go ?_⟩
    refine ⟨_, rfl, c, _, rfl, rfl, ?_⟩
    have hc2 : c ∈ s.cps.toList := by
      rw [← Array.getElem?_toList] at hc
      exact List.mem_of_getElem? hc
    have hm : c ∈ (Str.ofString "abcdefghijklmnopqrstuvwxyz").cps.toList := letters_all c (hs.2.2 c hc2)
    rw [decide_eq_true hm]
    exact hS _ _ _ (Same.refl H1) rfl rfl
  · have e : (List.range s.cps.size).filterMap (fun _ => some (Dt.bl true)) = ((List.range s.cps.size).map fun _ => true).map Dt.bl := by
      rw [fm_map, List.map_map]
      rfl
    rw [e] at hy
    have hy := RpA.bls hy
    subst hy
    refine ⟨D, _, rfl, SqL.of hD, ?_⟩
    have e2 : ((List.range s.cps.size).map fun _ => true).all id = true := by simp
    rw [e2]
    exact k _ hM

/-! ### is_integer -/
def isInt : Dt → Bool
  | .int _ => true
  | _ => false
/-- a question about one piece of data -/
def spB (K : PySem.W.Frag) (p : Dt → Bool) : Sp := fun vs H Q _ => ∃ d v, vs = [v] ∧ Rp K (CL K) H d v ∧ pln d = true ∧ ∀ H', Same H H' → Q (.bl (p d)) H'
abbrev s_is_integer : Stmt := top 25
abbrev n_is_integer : List Str := ["value"]
theorem sc_is_integer : FnScope n_is_integer ["value"] (defScope s_is_integer) := ⟨rfl, rfl, rfl, by decide +kernel, rfl, by decide +kernel, by decide +kernel⟩
theorem ok_is_integer (T : Tx K mg) : Cl CX0 P w K mg base 1 "is_integer" (spB K isInt) := by
  refine cl0 T.f_is_integer sc_is_integer (fun _ _ _ _ _ _ us hl => match us, hl with | [_], _ => rfl) (fun vs H Q E h => ?_) (fun f cdv A outer s H vs Q E hr h => ?_)
  · obtain ⟨d, v, rfl, _⟩ := h
    rfl
  obtain ⟨d, v, rfl, hv, hp, k⟩ := h
  have k := k H (Same.refl H)
  refine ⟨_, (pss_one (ps_ret (pe_and (pe_callB (id := "isinstance") (isiK (K := K)) (by rfl) T.b_isinstance (by decide +kernel) (pa_cons (pv 0) (pa_cons (pe_bltn (v := .ty "int") rfl T.b_int (by decide +kernel) rfl) pa_nil))) (pe_one (pe_not (pe_callB (id := "isinstance") (isiK (K := K)) (by rfl) T.b_isinstance (by decide +kernel) (pa_cons (pv 0) (pa_cons (pe_bltn (v := .ty "bool") rfl T.b_bool (by decide +kernel) rfl) pa_nil)))))))), ?_⟩
  refine ⟨_, rfl, _, _, _, _, _, rfl, .ty _, tyD hv hp, kitI hp, _, rfl, ?_⟩
  refine ite2 (fun h1 => ?_) (fun h1 => ?_)
  · refine ⟨_, rfl, _, _, _, _, _, rfl, .ty _, tyD hv hp, kitBo hp, _, rfl, ?_⟩
    have e : (!isB d) = isInt d := by cases d <;> first | rfl | cases h1
    rw [e]
    exact k
  · have e : false = isInt d := by cases d <;> first | rfl | exact absurd rfl h1
    rw [e]
    exact k

/-! ### is_value -/
inductive So where
  | int | text | truth
def So.nm : So → Str
  | .int => "int"
  | .text => "text"
  | .truth => "truth"
def isVal : So → Dt → Bool
  | .int, .int i => decide ((if i < 0 then -i else i) < 10 ^ 30)
  | .text, .str s => decide ((s.length : Int) ≤ 60) && !decide (39 ∈ s.cps.toList)
  | .truth, .bl _ => true
  | _, _ => false
def sp_is_value (K : PySem.W.Frag) : Sp := fun vs H Q _ => ∃ (τ : So) (d : Dt) (v : V), vs = [.str τ.nm, v] ∧ Rp K (CL K) H d v ∧ pln d = true ∧ ∀ H', Same H H' → Q (.bl (isVal τ d)) H'
def sp_is_valueF (K : PySem.W.Frag) : Sp := fun vs H Q _ => ∃ (τ : So) (d : Dt) (v : V), vs = [.str τ.nm, v, .bl false] ∧ Rp K (CL K) H d v ∧ pln d = true ∧ ∀ H', Same H H' → Q (.bl (isVal τ d)) H'
abbrev s_is_value : Stmt := top 26
abbrev n_is_value : List Str := ["sort", "value", "may_be_empty"]
theorem sc_is_value : FnScope n_is_value ["sort", "value", "may_be_empty"] (defScope s_is_value) := ⟨rfl, rfl, rfl, by decide +kernel, rfl, by decide +kernel, by decide +kernel⟩
theorem non_iff {C : Addr} {H : Hp} {d : Dt} {v : V} (h : Rp K C H d v) : decide (v = .non) = (match d with | .non => true | _ => false) := by
  cases d with
  | non =>
    obtain rfl : v = .non := h
    rfl
  | bl b =>
    obtain rfl : v = .bl b := h
    rfl
  | int i =>
    obtain rfl : v = .int i := h
    rfl
  | str s =>
    obtain rfl : v = .str s := h
    rfl
  | lst ds =>
    unfold Rp at h
    obtain ⟨a, xs, rfl, h, _⟩ := h
    rfl
  | tup ds =>
    unfold Rp at h
    obtain ⟨a, xs, rfl, h, _⟩ := h
    rfl
  | lab ms =>
    unfold Rp at h
    obtain ⟨a, dx, t, rfl, h, _⟩ := h
    rfl
theorem ok_is_value (T : Tx K mg) : Cl CX0 P w K mg base 2 "is_value" (sp_is_value K) := by
  obtain ⟨hm, fd, F⟩ := id T.f_is_value
  have C_is_integer : Cl CX0 P w K mg base 1 "is_integer" (spB K isInt) := ok_is_integer T
  have G : FnOk P w K mg base CX0 2 (He.ga K "is_value") fd ["sort", "value", "may_be_empty"] (sp_is_valueF K) := by
    refine F.ok sc_is_value (fun vs H Q E h => ?_) (fun cdv A outer s H vs Q E hr h => ?_)
    · obtain ⟨τ, d, v, rfl, _⟩ := h
      rfl
    obtain ⟨τ, d, v, rfl, hv, hp, k⟩ := h
    refine ⟨_, PSs.nox (pss_cons (ps_if (PW.pt (pw_or (pt_not (pt_val (pe_callB (id := "isinstance") (isiK (K := K)) (by rfl) T.b_isinstance (by decide +kernel) (pa_cons (pv 0) (pa_cons (pe_bltn (v := .ty "str") rfl T.b_str (by decide +kernel) rfl) pa_nil))))) (pw_or1 (pt_cmpR (niQ (K := K)) (pv 0) (C8.pe_gc rfl T.c_SORTS) (by rfl))))) (pss_one (ps_ret pe_bl)) pss_nil)
      (pss_cons (ps_if (pt_cmp (pc_isN (pv 1))) (pss_one (ps_ret (pv 2))) pss_nil)
      (pss_cons (ps_if (pt_cmpR op_eq (pv 0) (C8.pe_gc rfl T.c_INT) (nomark _)) (pss_one (ps_ret (pe_and (pe_cl C_is_integer hr (by decide) pass0 rfl (pa_cons (pv 1) pa_nil)) (pe_one (pe_cmpR op_lt (pe_callB (id := "abs") call_abs (by rfl) T.b_abs (by decide +kernel) (pa_cons (pv 1) pa_nil)) (pe_op op_pow pe_int pe_int) (nomark _)))))) pss_nil)
      (pss_cons (ps_if (pt_cmpR op_eq (pv 0) (C8.pe_gc rfl T.c_TEXT) (nomark _)) (pss_one (ps_ret (pe_and (pe_callB (id := "isinstance") (isiK (K := K)) (by rfl) T.b_isinstance (by decide +kernel) (pa_cons (pv 1) (pa_cons (pe_bltn (v := .ty "str") rfl T.b_str (by decide +kernel) rfl) pa_nil))) (pe_and (pe_cmpR op_le (pe_callB (id := "len") (lenK (K := K)) (by rfl) T.b_len (by decide +kernel) (pa_cons (pv 1) pa_nil)) (C8.pe_gc rfl T.c_LONGEST_STRING) (nomark _)) (pe_one (pe_cmpR op_notIn_sign (C8.pe_gc rfl T.c_QUOTE) (pv 1) (by rfl))))))) pss_nil)
      (pss_one (ps_ret (pe_callB (id := "isinstance") (isiK (K := K)) (by rfl) T.b_isinstance (by decide +kernel) (pa_cons (pv 1) (pa_cons (pe_bltn (v := .ty "bool") rfl T.b_bool (by decide +kernel) rfl) pa_nil))))))))), ?_⟩
    refine ⟨_, rfl, _, _, _, _, true, rfl, .ty _, .base (.str _), kit_ty (by decide +kernel), _, rfl, ?_⟩
    refine iteF ?_
    refine ⟨_, rfl, _, _, rfl, .inr (T.t_SORTS _), rfl, rfl, _, rfl, ?_⟩
    have e1 : inV (.str τ.nm) [.str "int", .str "text", .str "truth"] = true := by cases τ <;> decide +kernel
    rw [e1]
    refine iteF ?_
    refine ⟨_, rfl, _, rfl, ?_⟩
    rw [non_iff hv]
    refine ite2 (fun h1 => ?_) (fun h1 => ?_)
    · refine ⟨_, rfl, ?_⟩
      have e2 : false = isVal τ d := by
        cases d with
        | non => cases τ <;> rfl
        | _ => cases h1
      rw [e2]
      exact k H (Same.refl H)
    cases τ with
    | int =>
      refine ⟨_, rfl, rfl, _, rfl, ?_⟩
      refine ite2 (fun _ => ?_) (fun h => absurd (by decide +kernel) h)
      refine ⟨_, rfl, d, v, rfl, hv, hp, fun H1 e1 => ?_⟩
      refine ⟨_, rfl, ?_⟩
      cases d with
      | int i =>
        obtain rfl : v = .int i := hv
        refine iteT ?_
        refine ⟨_, rfl, _, rfl, _, _, rfl, rfl, ⟨by decide, by decide, by decide⟩, _, _, rfl, rfl, ?_⟩
        exact k H1 e1
      | _ => exact k H1 e1
    | text =>
      refine ⟨_, rfl, rfl, _, rfl, ?_⟩
      refine ite2 (fun h => absurd h (by decide +kernel)) (fun _ => ?_)
      refine ⟨_, rfl, rfl, _, rfl, ?_⟩
      refine ite2 (fun _ => ?_) (fun h => absurd (by decide +kernel) h)
      refine ⟨_, rfl, _, _, _, _, _, rfl, .ty _, tyD hv hp, kitS hp, _, rfl, ?_⟩
      cases d with
      | str s =>
        obtain rfl : v = .str s := hv
        have hl : s.length ≤ 1000 := of_decide_eq_true hp
        refine iteT ?_
        refine ⟨_, rfl, _, s.length, rfl, ⟨by rw [sizeLine_eq]; omega, rfl⟩, _, _, rfl, rfl, _, rfl, ?_⟩
        have k := k H (Same.refl H)
        refine ite2 (fun h => ?_) (fun h => ?_)
        · refine ⟨_, rfl, 39, _, by decide +kernel, rfl, ?_⟩
          have e2 : isVal .text (.str s) = (!decide (39 ∈ s.cps.toList)) := by
            show (decide ((s.length : Int) ≤ 60) && _) = _
            rw [h]
            rfl
          rw [← e2]
          exact k
        · have e2 : isVal .text (.str s) = false := by
            show (decide ((s.length : Int) ≤ 60) && _) = _
            rw [Bool.not_eq_true] at h
            rw [h]
            rfl
          rw [e2] at k
          exact k
      | lab ms => cases hp
      | _ => exact k H (Same.refl H)
    | truth =>
      refine ⟨_, rfl, rfl, _, rfl, ?_⟩
      refine ite2 (fun h => absurd h (by decide +kernel)) (fun _ => ?_)
      refine ⟨_, rfl, rfl, _, rfl, ?_⟩
      refine ite2 (fun h => absurd h (by decide +kernel)) (fun _ => ?_)
      refine ⟨_, rfl, _, _, _, _, _, rfl, .ty _, tyD hv hp, kitBo hp, ?_⟩
      have e2 : isB d = isVal .truth d := by cases d <;> rfl
      rw [e2]
      exact k H (Same.refl H)
  obtain ⟨ds, hd, hb⟩ := F.binds0 (ps := ["sort", "value", "may_be_empty"]) 2 (by simp) rfl (fun D doc pm an cdv ct us ks h1 h2 => match us, ks, h1, h2 with | [_, _], [_], _, _ => ⟨_, _, _, _, _, _, rfl, rfl, rfl⟩)
  refine ⟨He.ga K "is_value", (FnOk.raw G hb hd).imp fun vs H Q E h => ?_, hm, F.kp⟩
  obtain ⟨τ, d, v, rfl, h⟩ := h
  exact ⟨τ, d, v, rfl, h⟩
end
end Abv
set_option Elab.async false
set_option linter.all false
set_option maxRecDepth 100000
set_option maxHeartbeats 4000000
/-! ## values.py, further -/
namespace Abv
open PySem PySem.Spec PyProof.Rows L2
section
variable {P : Program} {w : World} {K : PySem.W.Frag} {mg : Str → Option Value} {base : Heap}
/-! ### is_any_value -/
def isAny (d : Dt) : Bool := isVal .int d || (isVal .text d || isVal .truth d)
abbrev s_is_any_value : Stmt := top 27
abbrev n_is_any_value : List Str := ["value", "sort"]
theorem sc_is_any_value : FnScope n_is_any_value ["value"] (defScope s_is_any_value) := ⟨rfl, rfl, rfl, by decide +kernel, rfl, by decide +kernel, by decide +kernel⟩
def sorts3 : List So := [.int, .text, .truth]
theorem ok_is_any_value (T : Tx K mg) : Cl CX0 P w K mg base 3 "is_any_value" (spB K isAny) := by
  have C_is_value : Cl CX0 P w K mg base 2 "is_value" (sp_is_value K) := ok_is_value T
  refine cl0 T.f_is_any_value sc_is_any_value (fun _ _ _ _ _ _ us hl => match us, hl with | [_], _ => rfl) (fun vs H Q E h => ?_) (fun f cdv A outer s H vs Q E hr h => ?_)
  · obtain ⟨d, v, rfl, _⟩ := h
    rfl
  obtain ⟨d, v, rfl, hv, hp, k⟩ := h
  refine ⟨_, (pss_one (ps_ret (pe_callB (id := "any") (anyK (K := K)) (by rfl) T.b_any (by decide +kernel) (pa_cons (pe_lc (own := [("sort", 1)]) rfl sc_is_any_value.nd (pi_tupK (K := K) (C8.pe_gc rfl T.c_SORTS)) (blkOk_by (own := [("sort", 1)]) (N := n_is_any_value) (sc := defScope s_is_any_value) (by decide +kernel)) (fun _ _ _ _ _ => (pg_name (i := 1) sc_is_any_value.nd rfl (Or.inl rfl))) (fun _ _ _ _ _ => pts_nil) (fun _ _ _ _ _ => (pe_cl C_is_value hr (by decide) pass0 rfl (pa_cons (pv 1) (pa_cons (pv 0) pa_nil))))) pa_nil)))), ?_⟩
  refine ⟨_, rfl, ⟨_, T.t_SORTS H⟩, fun D nD => lcT (K := K) (C := CL K) (fun i => (sorts3[i]?).bind fun τ => some (.bl (isVal τ d))) (fmSame H) nD (by decide) (fun H1 _ => T.t_SORTS H1) (fun i d' _ e => ?_) (fun i x H1 R S hx hM _ hS => ?_) (fun H1 ys hM hD hy => ?_) (fun H1 _ => Same.refl H1)⟩
  · cases h : sorts3[i]? with
    | none =>
      rw [h] at e
      cases e
    | some τ =>
      rw [h] at e
      cases e
      rfl
  · obtain ⟨τ, h1, h2⟩ : ∃ τ : So, x = .str τ.nm ∧ sorts3[i]? = some τ := by
      match i, hx with
      | 0, hx => exact ⟨.int, by cases hx; rfl, rfl⟩
      | 1, hx => exact ⟨.text, by cases hx; rfl, rfl⟩
      | 2, hx => exact ⟨.truth, by cases hx; rfl, rfl⟩
    subst h1
    refine ⟨rfl, yes_go ?_⟩
    refine ⟨_, rfl, _, rfl, τ, d, v, rfl, Rp.same hM d v hv, hp, fun H2 e => ?_⟩
    exact hS _ _ (.bl (isVal τ d)) e (by rw [h2]; rfl) rfl
  · have e : (List.range ([V.str "int", V.str "text", V.str "truth"] : List V).length).filterMap (fun i => (sorts3[i]?).bind fun τ => some (Dt.bl (isVal τ d))) = [isVal .int d, isVal .text d, isVal .truth d].map Dt.bl := rfl
    rw [e] at hy
    have hy := RpA.bls hy
    subst hy
    refine ⟨D, _, rfl, SqL.of hD, ?_⟩
    have e2 : [isVal .int d, isVal .text d, isVal .truth d].any id = isAny d := by
      simp only [List.any_cons, List.any_nil, Bool.or_false, id]
      rfl
    rw [e2]
    exact k _ hM
/-! ### is_key -/
def isKey (d : Dt) : Bool := isVal .int d || isVal .text d
abbrev s_is_key : Stmt := top 28
abbrev n_is_key : List Str := ["value"]
theorem sc_is_key : FnScope n_is_key ["value"] (defScope s_is_key) := ⟨rfl, rfl, rfl, by decide +kernel, rfl, by decide +kernel, by decide +kernel⟩
theorem ok_is_key (T : Tx K mg) : Cl CX0 P w K mg base 3 "is_key" (spB K isKey) := by
  have C_is_value : Cl CX0 P w K mg base 2 "is_value" (sp_is_value K) := ok_is_value T
  refine cl0 T.f_is_key sc_is_key (fun _ _ _ _ _ _ us hl => match us, hl with | [_], _ => rfl) (fun vs H Q E h => ?_) (fun f cdv A outer s H vs Q E hr h => ?_)
  · obtain ⟨d, v, rfl, _⟩ := h
    rfl
  obtain ⟨d, v, rfl, hv, hp, k⟩ := h
  refine ⟨_, (pss_one (ps_ret (pe_or (pe_cl C_is_value hr (by decide) pass0 rfl (pa_cons (C8.pe_gc rfl T.c_INT) (pa_cons (pv 0) pa_nil))) (pe_one (pe_cl C_is_value hr (by decide) pass0 rfl (pa_cons (C8.pe_gc rfl T.c_TEXT) (pa_cons (pv 0) pa_nil))))))), ?_⟩
  refine ⟨_, rfl, .int, d, v, rfl, hv, hp, fun H1 e1 => ⟨_, rfl, ?_⟩⟩
  refine ite2 (fun h1 => ?_) (fun h1 => ?_)
  · have e : true = isKey d := by
      show true = (isVal .int d || _)
      rw [h1]
      rfl
    rw [e]
    exact k H1 e1
  · refine ⟨_, rfl, .text, d, v, rfl, Rp.same e1 d v hv, hp, fun H2 e2 => ?_⟩
    have e : isVal .text d = isKey d := by
      show _ = (isVal .int d || _)
      rw [Bool.not_eq_true] at h1
      rw [h1]
      rfl
    rw [e]
    exact k H2 (e1.trans e2)
/-! ### value_text -/
def qt (s : Str) : Str := (Str.ofString "'" ++ s) ++ Str.ofString "'"
def vt : Dt → Str
  | .bl true => "true"
  | .bl false => "false"
  | .int i => Str.ofString (toString i)
  | .str s => qt s
  | _ => "empty"
def sp_value_text (K : PySem.W.Frag) : Sp := fun vs H Q _ => ∃ d v, vs = [v] ∧ Rp K (CL K) H d v ∧ pln d = true ∧ isAny d = true ∧ ∀ H', Same H H' → Q (.str (vt d)) H'
abbrev s_value_text : Stmt := top 29
abbrev n_value_text : List Str := ["value"]
theorem sc_value_text : FnScope n_value_text ["value"] (defScope s_value_text) := ⟨rfl, rfl, rfl, by decide +kernel, rfl, by decide +kernel, by decide +kernel⟩
theorem log_ok {i : Int} (h : (if i < 0 then -i else i) < 10 ^ 30) : i.natAbs.log2 < 1920 := by
  have h1 : i.natAbs < 10 ^ 30 := by
    split at h <;> omega
  by_cases h0 : i.natAbs = 0
  · rw [h0]
    decide
  · have h2 : i.natAbs < 2 ^ 1920 := Nat.lt_of_lt_of_le h1 (by decide +kernel)
    exact (Nat.log2_lt h0).mpr h2
theorem ok_value_text (T : Tx K mg) : Cl CX0 P w K mg base 3 "value_text" (sp_value_text K) := by
  have C_is_value : Cl CX0 P w K mg base 2 "is_value" (sp_is_value K) := ok_is_value T
  refine cl0 T.f_value_text sc_value_text (fun _ _ _ _ _ _ us hl => match us, hl with | [_], _ => rfl) (fun vs H Q E h => ?_) (fun f cdv A outer s H vs Q E hr h => ?_)
  · obtain ⟨d, v, rfl, _⟩ := h
    rfl
  obtain ⟨d, v, rfl, hv, hp, ha, k⟩ := h
  refine ⟨_, (pss_cons (ps_if (pt_cmp (pc_isN (pv 0))) (pss_one (ps_ret (C8.pe_gc rfl T.c_EMPTY_TEXT))) pss_nil)
      (pss_cons (ps_if (pt_val (pe_cl C_is_value hr (by decide) pass0 rfl (pa_cons (C8.pe_gc rfl T.c_TRUTH) (pa_cons (pv 0) pa_nil)))) (pss_one (ps_ret (pe_ifExp (pt_val (pv 0)) (C8.pe_gc rfl T.c_TRUE_TEXT) (C8.pe_gc rfl T.c_FALSE_TEXT)))) pss_nil)
      (pss_cons (ps_if (pt_val (pe_cl C_is_value hr (by decide) pass0 rfl (pa_cons (C8.pe_gc rfl T.c_INT) (pa_cons (pv 0) pa_nil)))) (pss_one (ps_ret (pe_callTy (T := "str") call_str_int (by rfl) T.b_str (by decide +kernel) (pa_cons (pv 0) pa_nil)))) pss_nil)
      (pss_cons (ps_if (pt_val (pe_cl C_is_value hr (by decide) pass0 rfl (pa_cons (C8.pe_gc rfl T.c_TEXT) (pa_cons (pv 0) pa_nil)))) (pss_one (ps_ret (pe_op op_add_str (pe_op op_add_str (C8.pe_gc rfl T.c_QUOTE) (pv 0)) (C8.pe_gc rfl T.c_QUOTE)))) pss_nil)
      (pss_one ps_never))))), ?_⟩
  refine ⟨_, rfl, _, rfl, ?_⟩
  rw [non_iff hv]
  cases d with
  | non => cases ha
  | lst ds => cases ha
  | tup ds => cases ha
  | lab ms => cases hp
  | bl b =>
    refine iteF ?_
    refine ⟨_, rfl, .truth, _, v, rfl, hv, hp, fun H1 e1 => ⟨_, rfl, iteT ?_⟩⟩
    obtain rfl : v = .bl b := hv
    refine ⟨_, rfl, _, rfl, ?_⟩
    cases b with
    | true => exact iteT (k H1 e1)
    | false => exact iteF (k H1 e1)
  | int i =>
    refine iteF ?_
    refine ⟨_, rfl, .truth, _, v, rfl, hv, hp, fun H1 e1 => ⟨_, rfl, iteF ?_⟩⟩
    have hv1 := Rp.same e1 _ v hv
    refine ⟨_, rfl, .int, _, v, rfl, hv1, hp, fun H2 e2 => ⟨_, rfl, ?_⟩⟩
    obtain rfl : v = .int i := hv
    have hi : isVal .int (.int i) = true := by
      have h : (isVal .int (.int i) || (false || false)) = true := ha
      simpa using h
    rw [hi]
    refine iteT ?_
    refine ⟨_, rfl, i, rfl, log_ok (of_decide_eq_true hi), k H2 (e1.trans e2)⟩
  | str s =>
    refine iteF ?_
    refine ⟨_, rfl, .truth, _, v, rfl, hv, hp, fun H1 e1 => ⟨_, rfl, iteF ?_⟩⟩
    have hv1 := Rp.same e1 _ v hv
    refine ⟨_, rfl, .int, _, v, rfl, hv1, hp, fun H2 e2 => ⟨_, rfl, iteF ?_⟩⟩
    refine ⟨_, rfl, .text, _, v, rfl, Rp.same e2 _ v hv1, hp, fun H3 e3 => ⟨_, rfl, ?_⟩⟩
    obtain rfl : v = .str s := hv
    have hi : isVal .text (.str s) = true := by
      have h : (false || (isVal .text (.str s) || false)) = true := ha
      simpa using h
    rw [hi]
    refine iteT ?_
    have hl : s.length ≤ 1000 := of_decide_eq_true hp
    have h1 : (Str.ofString "'").length = 1 := by decide +kernel
    refine ⟨_, rfl, _, _, rfl, rfl, by rw [h1, sizeLine_eq]; omega, _, _, rfl, rfl, ?_, k H3 ((e1.trans e2).trans e3)⟩
    rw [h1, str_len_append, h1, sizeLine_eq]
    omega
end
end Abv
set_option Elab.async false
set_option linter.all false
set_option maxRecDepth 100000
set_option maxHeartbeats 4000000
/-! ## in_value_order -/
namespace Abv
open PySem PySem.Spec PyProof.Rows L2
/-- a flat value as data -/
def dOf : V → Dt
  | .bl b => .bl b
  | .int i => .int i
  | .str s => .str s
  | .non => .non
  | _ => .lab []
/-- a value of one of the sorts -/
def okV (v : V) : Bool := isAny (dOf v) && pln (dOf v)
theorem okV_cases {v : V} (h : okV v = true) : (∃ b, v = .bl b) ∨ (∃ i, v = .int i) ∨ ∃ s, v = .str s := by
  cases v with
  | bl b => exact .inl ⟨b, rfl⟩
  | int i => exact .inr (.inl ⟨i, rfl⟩)
  | str s => exact .inr (.inr ⟨s, rfl⟩)
  | _ => cases h
theorem okV_rp {K : PySem.W.Frag} {C : Addr} {H : Hp} {v : V} (h : okV v = true) : Rp K C H (dOf v) v := by
  rcases okV_cases h with ⟨b, rfl⟩ | ⟨i, rfl⟩ | ⟨s, rfl⟩ <;> rfl
theorem okV_noL {v : V} (h : okV v = true) : noL (dOf v) = true := by
  rcases okV_cases h with ⟨b, rfl⟩ | ⟨i, rfl⟩ | ⟨s, rfl⟩ <;> rfl
theorem okV_inj {K : PySem.W.Frag} {C : Addr} {H : Hp} {v u : V} (h : okV v = true) (r : Rp K C H (dOf v) u) : u = v := by
  rcases okV_cases h with ⟨b, rfl⟩ | ⟨i, rfl⟩ | ⟨s, rfl⟩ <;> exact r
theorem okV_all {K : PySem.W.Frag} {C : Addr} {H : Hp} : ∀ {l ys : List V}, (∀ v ∈ l, okV v = true) → RpA K C H (l.map dOf) ys → ys = l
  | [], ys, _, h => by
    unfold List.map RpA at h
    exact h
  | v :: l, ys, hk, h => by
    rw [List.map_cons] at h
    unfold RpA at h
    obtain ⟨u, r, rfl, h2, h3⟩ := h
    rw [okV_inj (hk v (List.mem_cons_self ..)) h2, okV_all (fun z hz => hk z (List.mem_cons_of_mem _ hz)) h3]
theorem fm_filter (p : V → Bool) : ∀ l : List V, l.filterMap (fun v => if p v = true then some (dOf v) else none) = (l.filter p).map dOf
  | [] => rfl
  | v :: l => by
    rw [List.filterMap_cons, List.filter_cons]
    cases p v with
    | true =>
      rw [if_pos rfl, if_pos rfl, List.map_cons, fm_filter p l]
    | false =>
      rw [if_neg Bool.false_ne_true, if_neg Bool.false_ne_true, fm_filter p l]
/-- the order of values -/
def vle : V → V → Prop
  | .bl a, .bl b => a = false ∨ b = true
  | .bl _, .int _ => True
  | .bl _, .str _ => True
  | .int i, .int j => i ≤ j
  | .int _, .str _ => True
  | .str a, .str b => sle a b
  | _, _ => False
theorem vle_antisymm : ∀ a b : V, vle a b → vle b a → a = b := by
  intro a b h1 h2
  cases a <;> cases b <;> first | exact h1.elim | exact h2.elim | skip
  · rename_i a b
    have h1 : a = false ∨ b = true := h1
    have h2 : b = false ∨ a = true := h2
    cases a <;> cases b <;> first | rfl | (exfalso; revert h1 h2; decide)
  · rename_i i j
    have : i = j := Int.le_antisymm h1 h2
    rw [this]
  · rename_i a b
    rw [sle_antisymm h1 h2]
/-- the parts of a list of values -/
def intsV (l : List V) : List Int := l.filterMap fun v => match v with
  | .int i => some i
  | _ => none
def strsV (l : List V) : List Str := l.filterMap fun v => match v with
  | .str s => some s
  | _ => none
def isIntV : V → Bool
  | .int _ => true
  | _ => false
def isStrV : V → Bool
  | .str _ => true
  | _ => false
theorem ints_filter : ∀ l : List V, l.filter isIntV = (intsV l).map V.int
  | [] => rfl
  | v :: l => by
    cases v <;> first
      | (show l.filter isIntV = (intsV l).map V.int; exact ints_filter l)
      | (rename_i i; show V.int i :: l.filter isIntV = V.int i :: (intsV l).map V.int; rw [ints_filter l])
theorem strs_filter : ∀ l : List V, l.filter isStrV = (strsV l).map V.str
  | [] => rfl
  | v :: l => by
    cases v <;> first
      | (show l.filter isStrV = (strsV l).map V.str; exact strs_filter l)
      | (rename_i i; show V.str i :: l.filter isStrV = V.str i :: (strsV l).map V.str; rw [strs_filter l])
theorem parts_perm : ∀ {l : List V}, (∀ v ∈ l, okV v = true) → (((l.filter fun v => decide (v = .bl false)) ++ l.filter fun v => decide (v = .bl true)) ++ l.filter isIntV ++ l.filter isStrV).Perm l
  | [], _ => List.Perm.refl _
  | v :: l, h => by
    have ih := parts_perm (l := l) fun z hz => h z (List.mem_cons_of_mem _ hz)
    rcases okV_cases (h v (List.mem_cons_self ..)) with ⟨b, rfl⟩ | ⟨i, rfl⟩ | ⟨s, rfl⟩
    · cases b with
      | false => exact List.Perm.cons _ ih
      | true =>
        refine List.Perm.trans ?_ (List.Perm.cons _ ih)
        show (((l.filter fun v => decide (v = .bl false)) ++ (V.bl true :: l.filter fun v => decide (v = .bl true))) ++ l.filter isIntV ++ l.filter isStrV).Perm _
        rw [List.append_assoc, List.append_assoc, List.append_assoc, List.append_assoc]
        exact List.perm_middle
    · refine List.Perm.trans ?_ (List.Perm.cons _ ih)
      show (((l.filter fun v => decide (v = .bl false)) ++ l.filter fun v => decide (v = .bl true)) ++ (V.int i :: l.filter isIntV) ++ l.filter isStrV).Perm _
      rw [List.append_assoc, List.cons_append, List.append_assoc _ (l.filter isIntV)]
      exact List.perm_middle
    · refine List.Perm.trans ?_ (List.Perm.cons _ ih)
      show (((l.filter fun v => decide (v = .bl false)) ++ l.filter fun v => decide (v = .bl true)) ++ l.filter isIntV ++ (V.str s :: l.filter isStrV)).Perm _
      exact List.perm_middle
theorem filter_eq_all {l : List V} {x : V} : ∀ v ∈ l.filter (fun v => decide (v = x)), v = x := fun v hv => of_decide_eq_true (List.mem_filter.mp hv).2
/-- what comes out: the parts, the last two sorted -/
theorem parts_sorted {l : List V} {ns : List Int} {ss : List Str} (hn : ns.Pairwise (· ≤ ·)) (hs : ss.Pairwise sle) :
    (((l.filter fun v => decide (v = .bl false)) ++ l.filter fun v => decide (v = .bl true)) ++ ns.map V.int ++ ss.map V.str).Pairwise vle := by
  have c : ∀ (x : V) (m : List V), vle x x → (∀ v ∈ m, v = x) → m.Pairwise vle := fun x m hx h => by
    induction m with
    | nil => exact List.Pairwise.nil
    | cons y r ih =>
      refine List.pairwise_cons.mpr ⟨fun z hz => ?_, ih fun z hz => h z (List.mem_cons_of_mem _ hz)⟩
      rw [h y (List.mem_cons_self ..), h z (List.mem_cons_of_mem _ hz)]
      exact hx
  refine List.pairwise_append.mpr ⟨List.pairwise_append.mpr ⟨List.pairwise_append.mpr ⟨c (.bl false) _ (Or.inl rfl) filter_eq_all, c (.bl true) _ (Or.inr rfl) filter_eq_all, ?_⟩, ?_, ?_⟩, ?_, ?_⟩
  · intro a ha b hb
    rw [filter_eq_all a ha, filter_eq_all b hb]
    exact Or.inl rfl
  · rw [List.pairwise_map]
    exact hn
  · intro a ha b hb
    obtain ⟨j, _, rfl⟩ := List.mem_map.mp hb
    rcases List.mem_append.mp ha with h | h
    · rw [filter_eq_all a h]
      exact True.intro
    · rw [filter_eq_all a h]
      exact True.intro
  · rw [List.pairwise_map]
    exact hs
  · intro a ha b hb
    obtain ⟨j, _, rfl⟩ := List.mem_map.mp hb
    rcases List.mem_append.mp ha with h | h
    · rcases List.mem_append.mp h with h | h
      · rw [filter_eq_all a h]
        exact True.intro
      · rw [filter_eq_all a h]
        exact True.intro
    · obtain ⟨j, _, rfl⟩ := List.mem_map.mp h
      exact True.intro
section
variable {P : Program} {w : World} {K : PySem.W.Frag} {mg : Str → Option Value} {base : Heap}
/-- [x for x in us if p(x)] of values -/
theorem lcF {a : Addr} {us : List V} {j : Nat} {tt : TT} {vs : List Nat} {σ : L2.St} {H1 : Hp} {D : Addr} {Qd : Hp → Prop} (p : V → Bool) (nD : H1 D = none) (hn : us.length ≤ 100000) (hS : SqL K H1 a us) (hk : ∀ v ∈ us, okV v = true)
    (hj : j < (wipe σ vs).length) (hw : ∀ x, wipe ((wipe σ vs).set j (some x)) vs = wipe σ vs)
    (ht : ∀ x H (R : Bool → Hp → Prop), x ∈ us → Same H1 H → (∀ H', Same H H' → R (p x) H') → tt ((wipe σ vs).set j (some x)) H R)
    (hd : ∀ H, Same H1 H → H D = some (.lst (us.filter p)) → Qd H) :
    ∃ W : Nat → Nat → Hp → Prop, (∃ m, W 0 m (upd H1 D (.lst []))) ∧ ∀ i m H, W i m H →
      ((Itl K a).stop i H ∧ Qd H) ∨ ((Itl K a).go i H ∧ ∃ Nx : Hp → Prop, (∀ H', Nx H' → ∃ m', m' < m ∧ W (i + 1) m' H') ∧ ∀ x H', (Itl K a).yld i H x H' → gName j x (wipe σ vs) H' fun σ2 H2 => wipe σ2 vs = wipe σ vs ∧ tt σ2 H2 fun b H3 =>
        if b = true then tVar j σ2 H3 fun y H4 => ∃ acc, H4 D = some (.lst acc) ∧ acc.length < sizeLine ∧ Nx (upd H4 D (.lst (acc ++ [y]))) else Nx H3) := by
  refine lcL (K := K) (C := CL K) (fun i => (us[i]?).bind fun v => if p v = true then some (dOf v) else none) (fmSame H1) nD hn (fun H e => e.seq hS) (fun i d hi e => ?_) (fun i x H R S hx hM hR hS2 => ?_) (fun H ys hM hD hy => ?_) (fun H _ => Same.refl H)
  · rw [List.getElem?_eq_getElem hi, Option.bind_some] at e
    split at e
    · cases e
      exact okV_noL (hk _ (List.getElem_mem hi))
    · cases e
  · have hm := List.mem_of_getElem? hx
    refine ⟨hw x, ht x H _ hm hM fun H' e => ?_⟩
    cases hp : p x with
    | true =>
      rw [if_pos rfl]
      refine ⟨x, List.getElem?_set_self hj, hS2 x H' (dOf x) e ?_ (okV_rp (hk x hm))⟩
      rw [hx, Option.bind_some, hp, if_pos rfl]
    | false =>
      rw [if_neg Bool.false_ne_true]
      refine hR H' e ?_
      rw [hx, Option.bind_some, hp, if_neg Bool.false_ne_true]
  · rw [fm_list, fm_filter] at hy
    have := okV_all (fun v hv => hk v (List.mem_filter.mp hv).1) hy
    subst this
    exact hd H hM hD
def sp_in_value_order (K : PySem.W.Frag) : Sp := fun vs H Q _ => ∃ a us, vs = [.ref a] ∧ SqL K H a us ∧ (∀ v ∈ us, okV v = true) ∧ us.length < 64 ∧
  ∀ H' p us', Same H H' → H p = none → H' p = some (.lst us') → us'.Perm us → us'.Pairwise vle → Q (.ref p) H'
abbrev s_in_value_order : Stmt := top 30
abbrev n_in_value_order : List Str := ["values", "value", "found"]
theorem sc_in_value_order : FnScope n_in_value_order ["values"] (defScope s_in_value_order) := ⟨rfl, rfl, rfl, by decide +kernel, rfl, by decide +kernel, by decide +kernel⟩
theorem ok_in_value_order (T : Tx K mg) : Cl CX0 P w K mg base 4 "in_value_order" (sp_in_value_order K) := by
  have C_is_any_value : Cl CX0 P w K mg base 3 "is_any_value" (spB K isAny) := ok_is_any_value T
  have C_is_integer : Cl CX0 P w K mg base 1 "is_integer" (spB K isInt) := ok_is_integer T
  refine cl0 T.f_in_value_order sc_in_value_order (fun _ _ _ _ _ _ us hl => match us, hl with | [_], _ => rfl) (fun vs H Q E h => ?_) (fun f cdv A outer s H vs Q E hr h => ?_)
  · obtain ⟨a, us, rfl, _⟩ := h
    rfl
  obtain ⟨a, us, rfl, hS, hk, hl, k⟩ := h
  refine ⟨_, (pss_cons (ps_for PassesOwn.never rfl (pi_listK (K := K) (pv 0)) (pg_name (i := 1) sc_in_value_order.nd rfl (Or.inl rfl))
        (pss_one (ps_if (PW.pt (pw_and (pt_cmp (pc_notN (pv 1))) (pw_and1 (pt_not (pt_val (pe_cl C_is_any_value hr (by decide) pass0 rfl (pa_cons (pv 1) pa_nil))))))) (pss_one ps_never) pss_nil)))
      (pss_cons (ps_setLc (i := 2) (own := [("value", 1)]) rfl sc_in_value_order.nd rfl rfl (sw_true rfl rfl rfl (by decide +kernel)) (pi_listK (K := K) (pv 0)) (blkOk_by (own := [("value", 1)]) (N := n_in_value_order) (sc := defScope s_in_value_order) (by decide +kernel)) (fun _ _ _ _ _ => (pg_name (i := 1) sc_in_value_order.nd rfl (Or.inl rfl))) (fun _ _ _ _ _ => pts_one (pt_cmp (pc_isN (pv 1)))) (fun _ _ _ _ _ => (pv 1)))
      (pss_cons (ps_expr (pe_bmK (K := K) PySem.F.plainAttrs_list PySem.F.slot_list_extend PySem.F.type_list_extend mt_extend (pv 2) (pa_cons (pe_lc (own := [("value", 1)]) rfl sc_in_value_order.nd (pi_listK (K := K) (pv 0)) (blkOk_by (own := [("value", 1)]) (N := n_in_value_order) (sc := defScope s_in_value_order) (by decide +kernel)) (fun _ _ _ _ _ => (pg_name (i := 1) sc_in_value_order.nd rfl (Or.inl rfl))) (fun _ _ _ _ _ => pts_one (pt_cmpR op_isBo (pv 1) pe_bl (nomark _))) (fun _ _ _ _ _ => (pv 1))) pa_nil)))
      (pss_cons (ps_expr (pe_bmK (K := K) PySem.F.plainAttrs_list PySem.F.slot_list_extend PySem.F.type_list_extend mt_extend (pv 2) (pa_cons (pe_lc (own := [("value", 1)]) rfl sc_in_value_order.nd (pi_listK (K := K) (pv 0)) (blkOk_by (own := [("value", 1)]) (N := n_in_value_order) (sc := defScope s_in_value_order) (by decide +kernel)) (fun _ _ _ _ _ => (pg_name (i := 1) sc_in_value_order.nd rfl (Or.inl rfl))) (fun _ _ _ _ _ => pts_one (pt_cmpR op_isBo (pv 1) pe_bl (nomark _))) (fun _ _ _ _ _ => (pv 1))) pa_nil)))
      (pss_cons (ps_expr (pe_bmK (K := K) PySem.F.plainAttrs_list PySem.F.slot_list_extend PySem.F.type_list_extend mt_extend (pv 2) (pa_cons (pe_callB (id := "sorted") (srtI (K := K)) (by rfl) T.b_sorted (by decide +kernel) (pa_cons (pe_lc (own := [("value", 1)]) rfl sc_in_value_order.nd (pi_listK (K := K) (pv 0)) (blkOk_by (own := [("value", 1)]) (N := n_in_value_order) (sc := defScope s_in_value_order) (by decide +kernel)) (fun _ _ _ _ _ => (pg_name (i := 1) sc_in_value_order.nd rfl (Or.inl rfl))) (fun _ _ _ _ _ => pts_one (pt_val (pe_cl C_is_integer hr (by decide) pass0 rfl (pa_cons (pv 1) pa_nil)))) (fun _ _ _ _ _ => (pv 1))) pa_nil)) pa_nil)))
      (pss_one (ps_ret (pe_op op_cat (pv 2) (pe_callB (id := "sorted") (srtS (K := K)) (by rfl) T.b_sorted (by decide +kernel) (pa_cons (pe_lc (own := [("value", 1)]) rfl sc_in_value_order.nd (pi_listK (K := K) (pv 0)) (blkOk_by (own := [("value", 1)]) (N := n_in_value_order) (sc := defScope s_in_value_order) (by decide +kernel)) (fun _ _ _ _ _ => (pg_name (i := 1) sc_in_value_order.nd rfl (Or.inl rfl))) (fun _ _ _ _ _ => pts_one (pt_val (pe_callB (id := "isinstance") (isiK (K := K)) (by rfl) T.b_isinstance (by decide +kernel) (pa_cons (pv 1) (pa_cons (pe_bltn (v := .ty "str") rfl T.b_str (by decide +kernel) rfl) pa_nil))))) (fun _ _ _ _ _ => (pv 1))) pa_nil)))))))))), ?_⟩
  have hn : us.length ≤ 100000 := by omega
  -- for value in values: all are values
  refine ⟨_, rfl, a, rfl, ⟨_, hS⟩, for_list (K := K) (a := a) (xs := us) (fun i σ H1 => Same H H1 ∧ ∃ x, σ = [some (.ref a), x, none]) ⟨Same.refl H, none, rfl⟩ (fun i σ H1 _ h => h.1.seq hS) (fun i x σ H1 hx h => ?_) (fun σ H1 h => ?_)⟩
  · obtain ⟨e, y, rfl⟩ := h
    have ho := hk x (List.mem_of_getElem? hx)
    refine ⟨_, rfl, _, rfl, ?_⟩
    refine ite2 (fun _ => ?_) (fun _ => ?_)
    · refine ⟨_, rfl, dOf x, x, rfl, okV_rp ho, (Bool.and_eq_true_iff.mp ho).2, fun H2 e2 => ⟨_, rfl, ?_⟩⟩
      rw [(Bool.and_eq_true_iff.mp ho).1]
      exact iteF ⟨e.trans e2, _, rfl⟩
    · exact iteF ⟨e, _, rfl⟩
  obtain ⟨e1, y, rfl⟩ := h
  have hS1 := e1.seq hS
  -- found = [.. is None]: empty
  refine ⟨_, rfl, a, rfl, ⟨_, hS1⟩, fun D nD => lcF (fun _ => false) nD hn hS1 hk (by show 1 < 3; omega) (fun _ => rfl) (fun x H2 R hx e2 hR => ?_) (fun H2 e2 hD => ?_)⟩
  · refine ⟨_, rfl, _, rfl, ?_⟩
    have h0 : decide (x = V.non) = false := by
      rcases okV_cases (hk x hx) with ⟨b, rfl⟩ | ⟨i, rfl⟩ | ⟨s, rfl⟩ <;> rfl
    rw [h0]
    exact hR _ (Same.refl H2)
  have nDH : H D = none := e1.free nD
  have e02 := e1.trans e2
  have e0 : us.filter (fun _ => false) = [] := by simp
  rw [e0] at hD
  have flt : ∀ p : V → Bool, (us.filter p).length ≤ us.length := fun p => List.length_filter_le p us
  have sz : ∀ n : Nat, n ≤ 1000 → n ≤ sizeLine := fun n h => by rw [sizeLine_eq]; omega
  -- found.extend([.. is False])
  refine ⟨_, rfl, Or.inl ⟨rfl, _, SqL.of hD⟩, _, rfl, a, rfl, ⟨_, e02.seq hS⟩, fun D2 nD2 => lcF (fun v => decide (v = .bl false)) nD2 hn (e02.seq hS) hk (by show 1 < 3; omega) (fun _ => rfl) (fun x H3 R hx e3 hR => ?_) (fun H3 e3 hD2 => ?_)⟩
  · refine ⟨_, rfl, false, rfl, ?_, _, rfl, hR _ (Same.refl H3)⟩
    rcases okV_cases (hk x hx) with ⟨b, rfl⟩ | ⟨i, rfl⟩ | ⟨s, rfl⟩ <;> rfl
  refine ⟨D, D2, _, _, rfl, rfl, e3 _ _ hD, hD2, sz _ (by have := flt fun v => decide (v = .bl false); rw [List.length_nil]; omega), ?_⟩
  have e03 := Same.upd (u := .lst ([] ++ us.filter fun v => decide (v = .bl false))) (e02.trans e3) nDH
  have hF := upd_same (H := H3) (a := D) (o := .lst ([] ++ us.filter fun v => decide (v = .bl false)))
  generalize upd H3 D (.lst ([] ++ us.filter fun v => decide (v = .bl false))) = H4 at e03 hF
  -- found.extend([.. is True])
  refine ⟨_, rfl, Or.inl ⟨rfl, _, SqL.of hF⟩, _, rfl, a, rfl, ⟨_, e03.seq hS⟩, fun D3 nD3 => lcF (fun v => decide (v = .bl true)) nD3 hn (e03.seq hS) hk (by show 1 < 3; omega) (fun _ => rfl) (fun x H5 R hx e5 hR => ?_) (fun H5 e5 hD3 => ?_)⟩
  · refine ⟨_, rfl, true, rfl, ?_, _, rfl, hR _ (Same.refl H5)⟩
    rcases okV_cases (hk x hx) with ⟨b, rfl⟩ | ⟨i, rfl⟩ | ⟨s, rfl⟩ <;> rfl
  refine ⟨D, D3, _, _, rfl, rfl, e5 _ _ hF, hD3, sz _ (by have := flt fun v => decide (v = .bl false); have := flt fun v => decide (v = .bl true); rw [List.nil_append]; omega), ?_⟩
  rw [List.nil_append]
  have e06 := Same.upd (u := .lst ((us.filter fun v => decide (v = .bl false)) ++ us.filter fun v => decide (v = .bl true))) (e03.trans e5) nDH
  have hG := upd_same (H := H5) (a := D) (o := .lst ((us.filter fun v => decide (v = .bl false)) ++ us.filter fun v => decide (v = .bl true)))
  generalize upd H5 D (.lst ((us.filter fun v => decide (v = .bl false)) ++ us.filter fun v => decide (v = .bl true))) = H6 at e06 hG
  -- found.extend(sorted(ints))
  refine ⟨_, rfl, Or.inl ⟨rfl, _, SqL.of hG⟩, _, rfl, a, rfl, ⟨_, e06.seq hS⟩, fun D4 nD4 => lcF isIntV nD4 hn (e06.seq hS) hk (by show 1 < 3; omega) (fun _ => rfl) (fun x H7 R hx e7 hR => ?_) (fun H7 e7 hD4 => ?_)⟩
  · refine ⟨_, rfl, dOf x, x, rfl, okV_rp (hk x hx), (Bool.and_eq_true_iff.mp (hk x hx)).2, fun H8 e8 => ⟨_, rfl, ?_⟩⟩
    have h0 : isInt (dOf x) = isIntV x := by
      rcases okV_cases (hk x hx) with ⟨b, rfl⟩ | ⟨i, rfl⟩ | ⟨s, rfl⟩ <;> rfl
    rw [h0]
    exact hR _ e8
  rw [ints_filter] at hD4
  refine ⟨D4, intsV us, rfl, SqL.of hD4, fun ns p hp hq np => ?_⟩
  have lI : (intsV us).length ≤ us.length := by
    have := flt isIntV
    rw [ints_filter, List.length_map] at this
    exact this
  have e8 := Same.new (u := .lst (ns.map V.int)) np
  have ne1 : D ≠ p := ne_of_none (e7 _ _ hG) np
  refine ⟨D, p, _, _, rfl, rfl, e8 _ _ (e7 _ _ hG), upd_same, sz _ (by have := flt fun v => decide (v = .bl false); have := flt fun v => decide (v = .bl true); rw [List.length_append, List.length_map, hp.length_eq]; omega), ?_⟩
  have e09 := Same.upd (u := .lst (((us.filter fun v => decide (v = .bl false)) ++ us.filter fun v => decide (v = .bl true)) ++ ns.map V.int)) ((e06.trans e7).trans e8) nDH
  have hI := upd_same (H := upd H7 p (.lst (ns.map V.int))) (a := D) (o := .lst (((us.filter fun v => decide (v = .bl false)) ++ us.filter fun v => decide (v = .bl true)) ++ ns.map V.int))
  generalize upd (upd H7 p (.lst (ns.map V.int))) D (.lst (((us.filter fun v => decide (v = .bl false)) ++ us.filter fun v => decide (v = .bl true)) ++ ns.map V.int)) = H9 at e09 hI
  -- return found + sorted(texts)
  refine ⟨_, rfl, _, rfl, a, rfl, ⟨_, e09.seq hS⟩, fun D5 nD5 => lcF isStrV nD5 hn (e09.seq hS) hk (by show 1 < 3; omega) (fun _ => rfl) (fun x H10 R hx e10 hR => ?_) (fun H10 e10 hD5 => ?_)⟩
  · refine ⟨_, rfl, _, _, _, _, _, rfl, .ty _, tyD (okV_rp (C := 0) (hk x hx)) (Bool.and_eq_true_iff.mp (hk x hx)).2, kitS (Bool.and_eq_true_iff.mp (hk x hx)).2, _, rfl, ?_⟩
    have h0 : isS (dOf x) = isStrV x := by
      rcases okV_cases (hk x hx) with ⟨b, rfl⟩ | ⟨i, rfl⟩ | ⟨s, rfl⟩ <;> rfl
    rw [h0]
    exact hR _ (Same.refl H10)
  rw [strs_filter] at hD5
  have lS : (strsV us).length ≤ us.length := by
    have := flt isStrV
    rw [strs_filter, List.length_map] at this
    exact this
  refine ⟨D5, strsV us, rfl, SqL.of hD5, by omega, fun ss q hp2 hs2 nq => ?_⟩
  have e11 := Same.new (u := .lst (ss.map V.str)) nq
  refine ⟨D, q, _, _, rfl, rfl, e11 _ _ (e10 _ _ hI), upd_same, sz _ (by have := flt fun v => decide (v = .bl false); have := flt fun v => decide (v = .bl true); rw [List.length_append, List.length_append, List.length_map, List.length_map, hp.length_eq, hp2.length_eq]; omega), fun r nr => ?_⟩
  have e12 : Same H (upd H10 q (.lst (ss.map V.str))) := (e09.trans e10).trans e11
  refine k _ r _ (e12.trans (Same.new nr)) (e12.free nr) upd_same ?_ (parts_sorted hq (sorted_pair hs2))
  refine List.Perm.trans (List.Perm.append (List.Perm.append_left _ ?_) ?_) (parts_perm hk)
  · rw [ints_filter]
    exact hp.map _
  · rw [strs_filter]
    exact hp2.map _
end
end Abv
set_option Elab.async false
set_option linter.all false
set_option maxRecDepth 100000
set_option maxHeartbeats 4000000
/-! ## labels.py -/
namespace Abv
open PySem PySem.Spec PyProof.Rows L2
theorem szl {n : Nat} (h : n ≤ 100000) : n ≤ sizeLine := by rw [sizeLine_eq]; omega
/-- marks one behind another -/
def Rise (ms : List Str) : Prop := ms.Pairwise slt
theorem slt_sle {a b : Str} (h : slt a b) : sle a b := ((slt_iff a b).mp h).1
theorem slt_irrefl (a : Str) : ¬ slt a a := List.lt_irrefl _
theorem slt_trans {a b c : Str} (h : slt a b) (h' : slt b c) : slt a c := List.lt_trans h h'
theorem slt_asymm {a b : Str} (h : slt a b) : ¬ slt b a := List.lt_asymm h
theorem Rise.sle {ms : List Str} (h : Rise ms) : ms.Pairwise Abv.sle := h.imp slt_sle
theorem Rise.new {ms : List Str} (h : Rise ms) {i : Nat} {m : Str} (e : ms[i]? = some m) : m ∉ ms.take i := by
  intro hm
  have hi : i < ms.length := (List.getElem?_eq_some_iff.mp e).1
  have hs : ms = ms.take i ++ ms.drop i := (List.take_append_drop i ms).symm
  have h1 : Rise (ms.take i ++ ms.drop i) := by rw [← hs]; exact h
  have h2 : m ∈ ms.drop i := by
    rw [List.drop_eq_getElem_cons hi]
    have : ms[i] = m := (List.getElem?_eq_some_iff.mp e).2
    rw [this]
    exact List.mem_cons_self
  exact slt_irrefl m ((List.pairwise_append.mp h1).2.2 m hm m h2)
theorem LblOk.rise {ms : List Str} (h : LblOk ms) : Rise ms := h.srt
section
variable {P : Program} {w : World} {K : PySem.W.Frag} {mg : Str → Option Value} {base : Heap}
def sp_marks_in_order (K : PySem.W.Frag) : Sp := fun vs H Q _ => ∃ a ms, vs = [.ref a] ∧ (SqL K H a (ms.map V.str) ∨ SqT K H a (ms.map V.str)) ∧ Rise ms ∧ (∀ m ∈ ms, NameOk m) ∧ ms.length < 64 ∧
  ∀ H' p, Same H H' → H p = none → H' p = some (.lst (ms.map V.str)) → Q (.ref p) H'
abbrev s_marks_in_order : Stmt := top 35
abbrev n_marks_in_order : List Str := ["marks", "found", "mark"]
theorem sc_marks_in_order : FnScope n_marks_in_order ["marks"] (defScope s_marks_in_order) := ⟨rfl, rfl, rfl, by decide +kernel, rfl, by decide +kernel, by decide +kernel⟩
theorem ok_marks_in_order (T : Tx K mg) : Cl CX0 P w K mg base 2 "marks_in_order" (sp_marks_in_order K) := by
  have C_is_name : Cl CX0 P w K mg base 1 "is_name" sp_is_name := ok_is_name T
  refine cl0 T.f_marks_in_order sc_marks_in_order (fun _ _ _ _ _ _ us hl => match us, hl with | [_], _ => rfl) (fun vs H Q E h => ?_) (fun f cdv A outer s H vs Q E hr h => ?_)
  · obtain ⟨a, us, rfl, _⟩ := h
    rfl
  obtain ⟨a, ms, rfl, hS, hr1, hn, hl, k⟩ := h
  refine ⟨_, (pss_cons (ps_set (i := 1) sc_marks_in_order.nd rfl (Or.inl rfl) (pe_lst pa_nil))
      (pss_cons (ps_for PassesOwn.never rfl (pi_seq (K := K) (pv 0)) (pg_name (i := 2) sc_marks_in_order.nd rfl (Or.inl rfl))
        (pss_cons (ps_if (pt_not (pt_val (pe_cl C_is_name hr (by decide) pass0 rfl (pa_cons (pv 2) pa_nil)))) (pss_one ps_never) pss_nil)
      (pss_one (ps_if (pt_cmpR (niQ (K := K)) (pv 2) (pv 1) (by rfl)) (pss_one (ps_expr (pe_bmK (K := K) PySem.F.plainAttrs_list PySem.F.slot_list_append PySem.F.type_list_append mt_append (pv 1) (pa_cons (pv 2) pa_nil)))) pss_nil))))
      (pss_one (ps_ret (pe_callB (id := "sorted") (srtS (K := K)) (by rfl) T.b_sorted (by decide +kernel) (pa_cons (pv 1) pa_nil)))))), ?_⟩
  obtain ⟨Pr, hp, hS⟩ := SeqP.of hS
  refine ⟨szl (by decide), fun D nD => ?_⟩
  have e0 := Same.new (u := .lst []) nD
  have hD0 := upd_same (H := H) (a := D) (o := .lst [])
  generalize upd H D (.lst []) = H0 at e0 hD0
  refine ⟨_, rfl, a, _, Pr, rfl, hp, hp.same e0 hS, fun J hJ => forJ (ms.map V.str).length (fun i σ H1 => Same H H1 ∧ H1 D = some (.lst ((ms.take i).map V.str)) ∧ ∃ y, σ = [some (.ref a), some (.ref D), y]) ?_ ?_ ?_ ?_ ?_⟩
  · exact ⟨e0, hD0, none, rfl⟩
  · exact fun i σ H1 hi h => hJ.go i H1 (hp.same h.1 hS) hi
  · exact fun σ H1 h => hJ.stop H1 (hp.same h.1 hS)
  · intro i x σ H1 H2 hi h hy
    obtain ⟨rfl, hx⟩ := hJ.yld i H1 x H2 (hp.same h.1 hS) hy
    obtain ⟨e1, hD1, y, rfl⟩ := h
    rw [List.getElem?_map, Option.map_eq_some_iff] at hx
    obtain ⟨m, hm, rfl⟩ := hx
    have hmm := List.mem_of_getElem? hm
    have hi : i < ms.length := (List.getElem?_eq_some_iff.mp hm).1
    refine ⟨_, rfl, m, rfl, hn m hmm, fun H3 e3 => ⟨_, rfl, iteF ?_⟩⟩
    refine ⟨_, rfl, _, rfl, D, _, rfl, .inl (SqL.of (e3 _ _ hD1)), rfl, all_flat_strs _, _, rfl, ?_⟩
    rw [inV_strs, decide_eq_false (hr1.new hm)]
    refine iteT ?_
    refine ⟨_, rfl, Or.inl ⟨rfl, _, SqL.of (e3 _ _ hD1)⟩, _, rfl, D, _, _, rfl, rfl, e3 _ _ hD1, ?_, ?_⟩
    · rw [List.length_map, List.length_take, sizeLine_eq]
      omega
    · refine ⟨Same.upd (e1.trans e3) nD, ?_, _, rfl⟩
      rw [upd_same, List.take_add_one, hm, List.map_append]
      rfl
  · rintro σ H1 ⟨e1, hD1, y, rfl⟩
    rw [List.length_map, List.take_length] at hD1
    refine ⟨_, rfl, D, ms, rfl, SqL.of hD1, hl, fun ys p h1 h2 np => ?_⟩
    have : ys = ms := perm_unique (fun a b => sle_antisymm) h1 (sorted_pair h2) hr1.sle
    subst this
    exact k _ p (e1.trans (Same.new np)) (e1.free np) upd_same
/-! ### choices -/
theorem noL_tS (ms : List Str) : noL (tS ms) = true := noLA_strs ms
/-- may m stand behind c -/
def okc (c : List Str) (m : Str) : Bool := match c.getLast? with
  | none => true
  | some x => decide (slt x m)
/-- the rising choices of n marks -/
def chs (ms : List Str) : Nat → List (List Str)
  | 0 => [[]]
  | n + 1 => (chs ms n).flatMap fun c => (ms.filter (okc c)).map fun m => c ++ [m]
theorem chs_len (ms : List Str) : ∀ (n : Nat) (c : List Str), c ∈ chs ms n → c.length = n
  | 0, c, h => by
    have : c = [] := by simpa [chs] using h
    rw [this]
    rfl
  | n + 1, c, h => by
    rw [chs, List.mem_flatMap] at h
    obtain ⟨c', h1, h2⟩ := h
    obtain ⟨m, _, rfl⟩ := List.mem_map.mp h2
    rw [List.length_append, chs_len ms n c' h1]
    rfl
/-- what the i-th gives -/
def atF {α β : Type} (l : List α) (g : α → List β) (i : Nat) : List β := (l[i]?).elim [] g
theorem flat_range {α β : Type} (l : List α) (g : α → List β) : (List.range l.length).flatMap (atF l g) = l.flatMap g := by
  induction l with
  | nil => rfl
  | cons x r ih =>
    rw [List.length_cons, List.range_succ_eq_map, List.flatMap_cons, List.flatMap_map, List.flatMap_cons]
    have e : (fun i => atF (x :: r) g i.succ) = atF r g := by
      funext i
      simp [atF]
    rw [e, ih]
    rfl
theorem atF_some {α β : Type} {l : List α} {g : α → List β} {i : Nat} {x : α} (h : l[i]? = some x) : atF l g i = g x := by
  unfold atF
  rw [h]
  rfl
theorem flat_take {α β : Type} (l : List α) (g : α → List β) : ∀ (i : Nat), (List.range i).flatMap (atF l g) = (l.take i).flatMap g
  | 0 => rfl
  | i + 1 => by
    rw [List.range_succ, List.flatMap_append, flat_take l g i, List.take_add_one, List.flatMap_append]
    unfold atF
    cases h : l[i]? <;> simp [h]
theorem flat_if {α β : Type} (p : α → Bool) (g : α → β) : ∀ l : List α, l.flatMap (fun x => if p x = true then [g x] else []) = (l.filter p).map g
  | [] => rfl
  | x :: r => by
    rw [List.flatMap_cons, List.filter_cons, flat_if p g r]
    cases p x <;> rfl
def sp_choices (K : PySem.W.Frag) : Sp := fun vs H Q _ => ∃ a ms n, vs = [.ref a, .int ((n : Nat) : Int)] ∧ SqT K H a (ms.map V.str) ∧ LblOk ms ∧ n ≤ 4 ∧ (∀ i, i ≤ n → (chs ms i).length ≤ 1000) ∧
  ∀ H' p ys, Same H H' → H p = none → H' p = some (.lst ys) → RpA K (CL K) H' ((chs ms n).map tS) ys → Q (.ref p) H'
abbrev s_choices : Stmt := top 36
abbrev n_choices : List Str := ["marks", "many", "found", "turn", "chosen", "mark"]
theorem sc_choices : FnScope n_choices ["marks", "many"] (defScope s_choices) := ⟨rfl, rfl, rfl, by decide +kernel, rfl, by decide +kernel, by decide +kernel⟩
theorem eqv_nil (ms : List Str) : PyData.eqv (toPy (tS ms)) (.tuple []) = ms.isEmpty := by
  cases ms with
  | nil => rfl
  | cons m r => rfl
theorem NameOk.strOk {m : Str} (h : NameOk m) : PyData.strOk m = true := by
  unfold PyData.strOk
  rw [Array.all_eq_true']
  intro c hc
  have := h.2.2 c (by simpa using hc)
  exact decide_eq_true (by omega)
theorem shaped_tS {ms : List Str} (h : ∀ m ∈ ms, NameOk m) : SeqAt.shaped (toPy (tS ms)) = true := by
  have h1 : ∀ l : List Str, (∀ m ∈ l, NameOk m) → PyData.canLayAll0 (toPyA (l.map Dt.str)) = true ∧ PyData.depthAll (toPyA (l.map Dt.str)) = 0 := by
    intro l
    induction l with
    | nil => exact fun _ => ⟨rfl, rfl⟩
    | cons m r ih =>
      intro hl
      obtain ⟨h1, h2⟩ := ih fun x hx => hl x (List.mem_cons_of_mem _ hx)
      constructor
      · show (PyData.strOk m && PyData.canLayAll0 (toPyA (r.map Dt.str))) = true
        rw [h1, (hl m (List.mem_cons_self ..)).strOk]
        rfl
      · show max 0 (PyData.depthAll (toPyA (r.map Dt.str))) = 0
        rw [h2]
        rfl
  obtain ⟨h2, h3⟩ := h1 ms h
  show (PyData.canLayAll0 (toPyA (ms.map Dt.str)) && decide (PyData.depthAll (toPyA (ms.map Dt.str)) + 1 ≤ 64)) = true
  rw [h2, h3]
  rfl
theorem chs_mem (ms : List Str) : ∀ (n : Nat) (c : List Str), c ∈ chs ms n → ∀ m ∈ c, m ∈ ms
  | 0, c, h => by
    have : c = [] := by simpa [chs] using h
    rw [this]
    exact fun m hm => by cases hm
  | n + 1, c, h => by
    rw [chs, List.mem_flatMap] at h
    obtain ⟨c', h1, h2⟩ := h
    obtain ⟨m, hm, rfl⟩ := List.mem_map.mp h2
    intro x hx
    rcases List.mem_append.mp hx with hx | hx
    · exact chs_mem ms n c' h1 x hx
    · rw [List.mem_singleton.mp hx]
      exact (List.mem_filter.mp hm).1
theorem ok_choices (T : Tx K mg) : Cl CX0 P w K mg base 1 "choices" (sp_choices K) := by
  refine cl0 T.f_choices sc_choices (fun _ _ _ _ _ _ us hl => match us, hl with | [_, _], _ => rfl) (fun vs H Q E h => ?_) (fun f cdv A outer s H vs Q E hr h => ?_)
  · obtain ⟨a, ms, n, rfl, _⟩ := h
    rfl
  obtain ⟨a, ms, n, rfl, hS, hl, hn, hcs, k⟩ := h
  refine ⟨_, (pss_cons (ps_set (i := 2) sc_choices.nd rfl (Or.inl rfl) (pe_lst (pa_cons (pe_tup pa_nil) pa_nil)))
      (pss_cons (ps_for PassesOwn.never rfl (pi_range1 rfl T.b_range (pa_cons (pv 1) pa_nil)) (pg_name (i := 3) sc_choices.nd rfl (Or.inl rfl))
        (pss_one (ps_setLc2 (i := 2) (own := [("chosen", 4), ("mark", 5)]) (vs1 := [5]) rfl sc_choices.nd rfl rfl (sw_true rfl rfl rfl (by decide +kernel)) (pi_listK (K := K) (pv 2)) (blkOk_by (own := [("chosen", 4), ("mark", 5)]) (N := n_choices) (sc := defScope s_choices) (by decide +kernel)) (by decide) (fun _ _ _ _ _ => (pg_name (i := 4) sc_choices.nd rfl (Or.inl rfl))) (fun _ _ _ _ _ => pts_nil) (fun _ _ _ _ _ => (pi_tupK (K := K) (pv 0))) (fun _ _ _ _ _ => (pg_name (i := 5) sc_choices.nd rfl (Or.inl rfl))) (fun _ _ _ _ _ => pts_one (PW.pt (pw_or (pt_cmpR (eqD (K := K) hr.units) (pv 4) (pe_tup pa_nil) (nomark _)) (pw_or1 (pt_cmpR op_lt_str (pe_ix (ixT (K := K)) (pv 4) (pe_un un_neg pe_int) (fun _ _ => rfl)) (pv 5) (nomark _)))))) (fun _ _ _ _ _ => (pe_op (catT (K := K)) (pv 4) (pe_tup (pa_cons (pv 5) pa_nil)))))))
      (pss_one (ps_ret (pv 2))))), ?_⟩
  refine ⟨szl (Nat.zero_le _), fun t nt => ⟨szl (Nat.le_of_ble_eq_true rfl), fun D nD => ?_⟩⟩
  have e1 := Same.new (u := .tup []) nt
  have nDH : H D = none := e1.free nD
  have hr0 : RpA K (CL K) (upd (upd H t (.tup [])) D (.lst [.ref t])) ((chs ms 0).map tS) [.ref t] := RpA.one (Rp.tS_of (.inl (.inl (Same.new nD _ _ upd_same))))
  refine ⟨_, rfl, (n : Int), rfl, by omega, by omega, ?_⟩
  rw [Int.toNat_natCast]
  refine forJ n (fun i σ H1 => Same H H1 ∧ ∃ p ys y u v, σ = [some (.ref a), some (.int n), some (.ref p), y, u, v] ∧ H p = none ∧ H1 p = some (.lst ys) ∧ RpA K (CL K) H1 ((chs ms i).map tS) ys) ?_ ?_ ?_ ?_ ?_
  · exact ⟨e1.trans (Same.new nD), D, _, none, none, none, rfl, nDH, upd_same, hr0⟩
  · exact fun i σ H1 hi _ => hi
  · exact fun σ H1 _ => Nat.le_refl _
  · rintro i x σ H1 H2 hi ⟨e2, p, ys, y, u, v, rfl, np, hp, hr1⟩ ⟨rfl, rfl⟩
    have hlen : ys.length = (chs ms i).length := by rw [hr1.len, List.length_map]
    have hc4 := hcs i (by omega)
    have hc5 := hcs (i + 1) (by omega)
    have hnm : ∀ k c, (chs ms i)[k]? = some c → ∀ m ∈ c, NameOk m := fun k c h m hm => hl.nm m (chs_mem ms i c (List.mem_of_getElem? h) m hm)
    refine ⟨_, rfl, p, rfl, ⟨ys, SqL.of hp⟩, fun D nD => ?_⟩
    have F := fmSame H2
    refine lcC (K := K) (C := CL K) (n := ys.length) F nD (fun k x H => ∃ c a', (chs ms i)[k]? = some c ∧ x = .ref a' ∧ SqT K H2 a' (c.map V.str)) (atF (chs ms i) fun c => (ms.filter (okc c)).map fun m => tS (c ++ [m])) (LcX.nil F nD) (fun k H3 hk h => ⟨ys, _, h.seq (SqL.of hp), List.getElem?_eq_getElem hk⟩) (fun H3 h => ⟨ys, h.seq (SqL.of hp), Nat.le_refl _⟩) ?_ ?_ ?_
    · rintro k H3 x H4 hk h ⟨rfl, hx⟩
      have hx := hx ys (h.seq (SqL.of hp))
      obtain ⟨d, h1, h2⟩ := hr1.get hx
      rw [List.getElem?_map, Option.map_eq_some_iff] at h1
      obtain ⟨c, hc, rfl⟩ := h1
      obtain ⟨a', rfl, ha⟩ := Rp.tS_at h2
      exact ⟨Same.refl _, c, a', hc, rfl, ha⟩
    · rintro k x H3 R hk ⟨c, a', hc, rfl, ha⟩ x3 hR
      refine ⟨rfl, yes_go ?_⟩
      have hck := hnm k c hc
      refine ⟨_, rfl, a, rfl, ⟨_, Same.seqT (e2.trans x3.fr) hS⟩, ?_⟩
      rw [atF_some hc, List.nil_append, flat_take] at hR
      rw [List.nil_append, flat_take] at x3
      have hdl : (((chs ms i).take k).flatMap fun c => (ms.filter (okc c)).map fun m => tS (c ++ [m])).length ≤ 4000 := by
        rw [List.length_flatMap]
        have h1 : ∀ l : List (List Str), (l.map fun c => ((ms.filter (okc c)).map fun m => tS (c ++ [m])).length).sum ≤ l.length * 4 := by
          intro l
          induction l with
          | nil => exact Nat.zero_le _
          | cons c l ih =>
            rw [List.map_cons, List.sum_cons, List.length_cons, List.length_map]
            have := List.length_filter_le (okc c) ms
            have := hl.le
            omega
        have := h1 ((chs ms i).take k)
        rw [List.length_take] at this
        omega
      generalize (((chs ms i).take k).flatMap fun c => (ms.filter (okc c)).map fun m => tS (c ++ [m])) = ds at x3 hR hdl
      have Si : ∀ {H' : Hp}, Same H2 H' → SqT K H' a (ms.map V.str) := fun h => Same.seqT (e2.trans h) hS
      refine lcC (K := K) (C := CL K) (n := (ms.map V.str).length) F nD (fun j x _ => ∃ m, ms[j]? = some m ∧ x = .str m) (atF ms fun m => if okc c m = true then [tS (c ++ [m])] else []) x3 (fun j H5 hj h => ⟨_, _, Si h, List.getElem?_eq_getElem hj⟩) (fun H5 h => ⟨_, Si h, Nat.le_refl _⟩) ?_ ?_ ?_
      · rintro j H5 x H6 hj h ⟨rfl, hx⟩
        have hx := hx _ (Si h)
        rw [List.getElem?_map, Option.map_eq_some_iff] at hx
        obtain ⟨m, hm, rfl⟩ := hx
        exact ⟨Same.refl _, m, hm, rfl⟩
      · rintro j x H5 R1 hj ⟨m, hm, rfl⟩ x5 hR1
        refine ⟨rfl, ?_⟩
        rw [atF_some hm, flat_take] at hR1
        rw [flat_take] at x5
        have hdl2 : (ds ++ (ms.take j).flatMap fun m => if okc c m = true then [tS (c ++ [m])] else []).length < 1000000 := by
          rw [List.length_append, flat_if, List.length_map]
          have := List.length_filter_le (okc c) (ms.take j)
          rw [List.length_take] at this
          have := hl.le
          omega
        generalize (ds ++ (ms.take j).flatMap fun m => if okc c m = true then [tS (c ++ [m])] else []) = ds2 at x5 hR1 hdl2
        have hc5 : SqT K H5 a' (c.map V.str) := Same.seqT x5.fr ha
        refine ⟨_, rfl, szl (Nat.zero_le _), fun q nq => ?_⟩
        have xq := x5.go F nD (Same.new (u := .tup []) nq)
        have hcq : SqT K (upd H5 q (.tup [])) a' (c.map V.str) := Same.seqT (Same.new nq) hc5
        have hqt : SqT K (upd H5 q (.tup [])) q [] := .inl (.inl upd_same)
        generalize upd H5 q (.tup []) = H6 at xq hcq hqt
        refine ⟨_, _, Rp.dp (tS c) _ (noBA_strs c) (Rp.tS_of (C := 0) hcq), .tup hqt .nil, shaped_tS hck, rfl, _, rfl, ?_⟩
        rw [eqv_nil]
        -- chosen + (mark,), and on it goes
        have fin : okc c m = true → ∀ (Q2 : VK), (∀ y H7, Rp K (CL K) H7 (tS (c ++ [m])) y → Same H6 H7 → Q2 y H7) → tOp (rCatA K) (tVar 4) (tTup (tCons (tVar 5) tNil)) [some (.ref a), some (.int n), some (.ref p), some (.int (0 + i)), some (.ref a'), some (.str m)] H6 Q2 := by
          intro hk Q2 hQ
          refine ⟨_, rfl, _, rfl, szl (Nat.le_of_ble_eq_true rfl), fun q2 nq2 => ?_⟩
          have e7 := Same.new (u := .tup [.str m]) nq2
          have h7 : SqT K (upd H6 q2 (.tup [.str m])) q2 [.str m] := .inl (.inl upd_same)
          refine ⟨a', q2, _, _, rfl, rfl, Same.seqT e7 hcq, h7, ?_, fun hx => ?_, fun _ hy => absurd hy (by simp), fun hx _ q3 nq3 => ?_⟩
          · have := chs_len ms i c (List.mem_of_getElem? hc)
            rw [List.length_map, sizeLine_eq, this]
            show i + 1 ≤ _
            omega
          · have hx : c = [] := List.map_eq_nil_iff.mp hx
            subst hx
            exact hQ _ _ (Rp.tS_of h7) e7
          · refine hQ _ _ (Rp.tS_of ?_) (e7.trans (Same.new nq3))
            rw [List.map_append]
            exact .inl (.inl upd_same)
        have app : ∀ y H7, okc c m = true → Rp K (CL K) H7 (tS (c ++ [m])) y → Same H6 H7 → ∃ acc, H7 D = some (.lst acc) ∧ acc.length < sizeLine ∧ R1 (upd H7 D (.lst (acc ++ [y]))) := by
          intro y H7 hk hy h7
          obtain ⟨acc, h1, h2, h3⟩ := (xq.go F nD h7).app F nD (noL_tS (c ++ [m])) hy hdl2
          refine ⟨acc, h1, h2, hR1 _ ?_⟩
          rw [if_pos hk]
          exact h3
        rcases List.eq_nil_or_concat c with rfl | ⟨pre, x, hcx⟩
        · exact iteT (iteT (fin rfl _ fun y H7 hy h7 => app y H7 rfl hy h7))
        · rw [List.concat_eq_append] at hcx
          subst hcx
          have h0 : (pre ++ [x]).isEmpty = false := by cases pre <;> rfl
          rw [h0]
          have hok : okc (pre ++ [x]) m = decide (slt x m) := by
            unfold okc
            rw [List.getLast?_concat]
          refine iteF ⟨_, rfl, _, rfl, _, _, _, .str x, rfl, rfl, hcq, ?_, _, rfl, _, _, rfl, rfl, _, rfl, ?_⟩
          · rw [List.map_append]
            exact atI_last _ _
          · refine ite2 (fun h => fin (by rw [hok]; exact h) _ fun y H7 hy h7 => app y H7 (by rw [hok]; exact h) hy h7) (fun h => ?_)
            refine hR1 _ ?_
            rw [if_neg (by rw [hok]; exact h), List.append_nil]
            exact xq
      · intro H5 x5
        refine hR H5 ?_
        rw [List.length_map, flat_range, flat_if] at x5
        exact x5
    · intro H3 x3
      rw [List.nil_append, hlen, flat_range] at x3
      obtain ⟨zs, hz1, hz2⟩ := x3.at_
      refine ⟨e2.trans x3.fr, D, zs, _, _, _, rfl, (e2.free nD), hz1, ?_⟩
      have e3 : (chs ms i).flatMap (fun c => (ms.filter (okc c)).map fun m => tS (c ++ [m])) = (chs ms (i + 1)).map tS := by
        rw [chs, List.map_flatMap]
        simp only [List.map_map]
        rfl
      rw [← e3]
      exact hz2
  · rintro σ H1 ⟨e2, p, ys, y, u, v, rfl, np, hp, hr1⟩
    exact ⟨_, rfl, k _ p ys e2 np hp hr1⟩
end
end Abv
set_option Elab.async false
set_option linter.all false
set_option maxRecDepth 100000
set_option maxHeartbeats 4000000
/-! ## Label, its text -/
namespace Abv
open PySem PySem.Spec PyProof.Rows L2
section
variable {P : Program} {w : World} {K : PySem.W.Frag} {mg : Str → Option Value} {base : Heap}
def sp_LabelI (K : PySem.W.Frag) : Sp := fun vs H Q _ => ∃ (x dx p : Addr) (ms : List Str), vs = [.ref x, .ref p] ∧ H x = some (.ins (CL K) dx []) ∧ SqT K H p (ms.map V.str) ∧ LblOk ms ∧
  ∀ H' t, (∀ b o, H b = some o → b ≠ x → H' b = some o) → H' x = some (.ins (CL K) dx [("own_marks", .ref t)]) → SqT K H' t (ms.map V.str) → Q .non H'
abbrev s_Label___init__ : Stmt := inClass (top 37) 1
abbrev n_Label___init__ : List Str := ["self", "marks", "kept"]
theorem sc_Label___init__ : FnScope n_Label___init__ ["self", "marks"] (defScope s_Label___init__) := ⟨rfl, rfl, rfl, by decide +kernel, rfl, by decide +kernel, by decide +kernel⟩
theorem ok_LabelI (T : Tx K mg) (Y : Ty K) : FnR P w K mg base CX0 3 (He.ma K (CL K) "__init__") (spLabI K) := by
  have C_marks_in_order : Cl CX0 P w K mg base 2 "marks_in_order" (sp_marks_in_order K) := ok_marks_in_order T
  obtain ⟨fd, F⟩ := Y.iL
  obtain ⟨oc, od, dV, kV, doc, pm, an, cdv, ct, osl, rfl, lk, hcd, hD, hK⟩ := F.ex
  rcases hD with ⟨_, rfl⟩ | ⟨e, _⟩
  case inr => exact absurd rfl e
  refine (StX.fn_star (k := 2) (sp := sp_LabelI K) (ps := ["self"]) (pv := "marks") lk hcd sc_Label___init__ StX.cxUp_none (StX.bind_star1 (p1 := "self") (pv := "marks") (B := fun vs => bindArgs (PySem.W.fnOf "__init__" "Label.__init__" (defArgs s_Label___init__) (defBody s_Label___init__) (defScope s_Label___init__) .none kV doc pm an cdv ct) ⟨vs, []⟩) (fun a => rfl) (fun a r rs => rfl)) ?_).imp ?_
  · intro A outer s H vs Q E hr h
    obtain ⟨x, dx, p, ms, rfl, hx, hS, hl, k⟩ := h
    refine ⟨_, PSs.nox (pss_cons (ps_set (i := 2) sc_Label___init__.nd rfl (Or.inl rfl) (pe_cl C_marks_in_order hr (by decide) pass0 rfl (pa_cons (pv 1) pa_nil)))
      (pss_cons (ps_if (pt_cmpR op_gt (pe_callB (id := "len") (lenK (K := K)) (by rfl) T.b_len (by decide +kernel) (pa_cons (pv 2) pa_nil)) (ClX.pe_cval (pe_glob (v := .ref (He.ga K "Label")) rfl T.g_Label rfl)) (nomark _)) (pss_one ps_never) pss_nil)
      (pss_one (ps_fld (pv 0) (pe_callTy (T := "tuple") (tupOf (K := K)) (by rfl) T.b_tuple (by decide +kernel) (pa_cons (pv 2) pa_nil)) rfl)))), ?_⟩
    refine ⟨_, rfl, p, ms, rfl, .inr hS, hl.rise, hl.nm, by have := hl.le; omega, fun H1 q e1 nq hq => ?_⟩
    obtain ⟨mu, hm⟩ := Y.most
    refine ⟨_, rfl, _, ms.length, rfl, .inl ⟨_, SqL.of hq, (List.length_map ..).symm⟩, _, _, _, mu, rfl, Y.rL, hm, _, _, rfl, rfl, _, rfl, ?_⟩
    have h4 : decide ((4 : Int) < (ms.length : Int)) = false := decide_eq_false (by have := hl.le; omega)
    rw [h4]
    refine iteF ?_
    refine ⟨_, rfl, q, _, rfl, .inl ⟨SqL.of hq, fun t nt => ?_⟩⟩
    have ne : ∀ b o, H b = some o → b ≠ x → upd (upd H1 t (.tup (ms.map V.str))) x (.ins (CL K) dx [("own_marks", .ref t)]) b = some o := fun b o hb hbx => by
      rw [upd_ne hbx]
      exact (e1.trans (Same.new nt)) _ _ hb
    have nx : t ≠ x := by
      rintro rfl
      rw [e1 _ _ hx] at nt
      cases nt
    refine ⟨_, rfl, x, CL K, dx, [], rfl, (e1.trans (Same.new nt)) _ _ hx, Y.cL, Y.aM, by decide, ?_⟩
    refine k _ t ne upd_same (.inl (.inl ?_))
    rw [upd_ne nx, upd_same]
  · intro vs H Q E h
    obtain ⟨x, dx, ms, rfl, hx, hl, k⟩ := h
    refine ⟨[.ref x], ms.map V.str, rfl, rfl, by rw [List.length_map]; exact szl (by have := hl.le; omega), fun p np => ?_⟩
    have e := Same.new (u := .tup (ms.map V.str)) np
    exact ⟨x, dx, p, ms, rfl, e _ _ hx, .inl (.inl upd_same), hl, fun H' t h1 h2 h3 => k H' t (fun b o hb hbx => h1 b o (e _ _ hb) hbx) h2 h3⟩
end
end Abv
set_option Elab.async false
set_option linter.all false
set_option maxRecDepth 100000
set_option maxHeartbeats 4000000
/-! ## the text of a label, and back -/
namespace Abv
open PySem PySem.Spec PyProof.Rows L2 TL
/-- the text of a label's marks -/
def lt : List Str → Str
  | [] => "-"
  | m :: r => Txt.join "+" (m :: r)
theorem joinL_len (S : List Nat) : ∀ ps : List (List Nat), (joinL S ps).length ≤ (ps.map List.length).sum + ps.length * S.length
  | [] => Nat.zero_le _
  | [p] => by
    show p.length ≤ (p.length + 0) + _
    omega
  | p :: q :: r => by
    show (p ++ (S ++ joinL S (q :: r))).length ≤ (p.length + ((q :: r).map List.length).sum) + (r.length + 1 + 1) * S.length
    have := joinL_len S (q :: r)
    rw [List.length_append, List.length_append, Nat.succ_mul]
    rw [List.length_cons] at this
    omega
theorem names_sum {ms : List Str} (h : ∀ m ∈ ms, NameOk m) : (ms.map (·.length)).sum ≤ 8 * ms.length := by
  induction ms with
  | nil => exact Nat.le_refl _
  | cons m r ih =>
    rw [List.map_cons, List.sum_cons, List.length_cons]
    have := (h m (List.mem_cons_self ..)).2.1
    have := ih fun x hx => h x (List.mem_cons_of_mem _ hx)
    omega
theorem lt_len {ms : List Str} (h : LblOk ms) : (lt ms).length ≤ 40 := by
  cases ms with
  | nil => decide +kernel
  | cons m r =>
    show (Txt.join "+" (m :: r)).length ≤ 40
    rw [join_eq, len_tl, tl_join]
    have h1 := joinL_len (tl "+") ((m :: r).map tl)
    have h2 : (((m :: r).map tl).map List.length).sum = ((m :: r).map (·.length)).sum := by
      rw [List.map_map]
      congr 1
    rw [h2, List.length_map] at h1
    have h3 := names_sum h.nm
    have h4 : (tl "+").length = 1 := by decide +kernel
    have h5 := h.le
    rw [h4] at h1
    omega
theorem NameOk.sign {m : Str} (h : NameOk m) {c : Nat} (hc : c < 97) : c ∉ tl m := fun hm => by
  have := (h.2.2 c hm).1
  omega
theorem lt_split {m : Str} {r : List Str} (h : ∀ x ∈ m :: r, NameOk x) : Txt.split (lt (m :: r)) "+" = m :: r :=
  split_join (s := 43) (S := []) (by decide +kernel) (by decide +kernel) (by simp) fun p hp => (h p hp).sign (by decide)
theorem lt_ne {m : Str} {r : List Str} (h : ∀ x ∈ m :: r, NameOk x) : lt (m :: r) ≠ Str.ofString "-" := fun e => by
  have h1 := lt_split h
  rw [e] at h1
  have h2 : Txt.split (Str.ofString "-") "+" = [Str.ofString "-"] := by decide +kernel
  rw [h2] at h1
  have h3 : Str.ofString "-" = m := by
    injection h1
  have := h m (List.mem_cons_self ..)
  rw [← h3] at this
  exact absurd this.2.2 (by decide +kernel)
theorem lt_inj {a b : List Str} (ha : ∀ x ∈ a, NameOk x) (hb : ∀ x ∈ b, NameOk x) (e : lt a = lt b) : a = b := by
  cases a with
  | nil => cases b with
    | nil => rfl
    | cons m r => exact absurd e.symm (lt_ne hb)
  | cons m r => cases b with
    | nil => exact absurd e (lt_ne ha)
    | cons n q => rw [← lt_split ha, ← lt_split hb, e]
section
variable {P : Program} {w : World} {K : PySem.W.Frag} {mg : Str → Option Value} {base : Heap}
def sp_law_label_text (K : PySem.W.Frag) : Sp := fun vs H Q _ => ∃ v ms, vs = [v] ∧ Rp K (CL K) H (tS ms) v ∧ LblOk ms ∧ ∀ H', Same H H' → Q (.str (lt ms)) H'
abbrev s__law_label_text : Stmt := top 50
abbrev n__law_label_text : List Str := ["_law_low"]
theorem sc__law_label_text : FnScope n__law_label_text ["_law_low"] (defScope s__law_label_text) := ⟨rfl, rfl, rfl, by decide +kernel, rfl, by decide +kernel, by decide +kernel⟩
theorem eqv_strs : ∀ a b : List Str, PyData.eqvAll (toPyA (a.map Dt.str)) (toPyA (b.map Dt.str)) = decide (a = b)
  | [], [] => rfl
  | [], _ :: _ => rfl
  | _ :: _, [] => rfl
  | x :: a, y :: b => by
    show ((x == y) && PyData.eqvAll (toPyA (a.map Dt.str)) (toPyA (b.map Dt.str))) = _
    rw [eqv_strs a b]
    by_cases h1 : x = y
    · subst h1
      by_cases h2 : a = b <;> simp [h2]
    · have : (x == y) = false := beq_eq_false_iff_ne.mpr h1
      rw [this, Bool.false_and]
      symm
      exact decide_eq_false fun e => h1 (by injection e)
theorem ok_law_label_text (T : Tx K mg) : Cl CX0 P w K mg base 1 "_law_label_text" (sp_law_label_text K) := by
  refine cl0 T.f__law_label_text sc__law_label_text (fun _ _ _ _ _ _ us hl => match us, hl with | [_], _ => rfl) (fun vs H Q E h => ?_) (fun f cdv A outer s H vs Q E hr h => ?_)
  · obtain ⟨v, ms, rfl, _⟩ := h
    rfl
  obtain ⟨v, ms, rfl, hv, hl, k⟩ := h
  refine ⟨_, (pss_one (ps_ret (pe_ifExp (pt_cmpR (neD (K := K) hr.units) (pv 0) (pe_tup pa_nil) (nomark _)) (pe_joinK (K := K) pe_str (pv 0)) pe_str))), ?_⟩
  refine ⟨_, rfl, szl (Nat.zero_le _), fun q nq => ?_⟩
  have e1 := Same.new (u := .tup []) nq
  have hv1 := Rp.same e1 _ _ hv
  have hq : SqT K (upd H q (.tup [])) q [] := .inl (.inl upd_same)
  refine ⟨_, _, Rp.dp (tS ms) _ (noBA_strs ms) hv1, .tup hq .nil, shaped_tS hl.nm, rfl, _, rfl, ?_⟩
  rw [eqv_nil]
  cases ms with
  | nil => exact iteF (k _ e1)
  | cons m r =>
    refine iteT ⟨⟨_, rfl⟩, v, rfl, ?_⟩
    obtain ⟨a, rfl, ha⟩ := Rp.tS_at hv1
    refine ⟨_, a, m :: r, rfl, rfl, .inr ha, ?_, k _ e1⟩
    have h1 := names_sum hl.nm
    have h2 := hl.le
    have h3 : (Str.ofString "+").length = 1 := by decide +kernel
    rw [h3]
    omega
/-! ### Label.of_text -/
def sp_of_text (K : PySem.W.Frag) : Sp := fun vs H Q _ => ∃ ms, vs = [.ref (CL K), .str (lt ms)] ∧ LblOk ms ∧ ∀ x H', Same H H' → Rp K (CL K) H' (.lab ms) (.ref x) → Q (.ref x) H'
abbrev s_Label_of_text : Stmt := inClass (top 37) 2
abbrev n_Label_of_text : List Str := ["cls", "text", "marks", "mark"]
theorem sc_Label_of_text : FnScope n_Label_of_text ["cls", "text"] (defScope s_Label_of_text) := ⟨rfl, rfl, rfl, by decide +kernel, rfl, by decide +kernel, by decide +kernel⟩
theorem ok_of_text (T : Tx K mg) (Y : Ty K) : ∃ (p g : Addr), ClX.CMet K (CL K) (.type "type") "of_text" p g ∧ FnR P w K mg base CX0 5 g (sp_of_text K) := by
  obtain ⟨p, g, hc, fd, F⟩ := Y.ofText
  refine ⟨p, g, hc, ?_⟩
  have C_marks_in_order : Cl CX0 P w K mg base 2 "marks_in_order" (sp_marks_in_order K) := ok_marks_in_order T
  have C_is_name : Cl CX0 P w K mg base 1 "is_name" sp_is_name := ok_is_name T
  have FI : FnR P w K mg base CX0 3 (He.ma K (CL K) "__init__") (spLabI K) := ok_LabelI T Y
  have G : FnOk P w K mg base CX0 5 g fd ["cls", "text"] (sp_of_text K) := by
    refine F.ok sc_Label_of_text (fun vs H Q E h => ?_) (fun cdv A outer s H vs Q E hr h => ?_)
    · obtain ⟨ms, rfl, _⟩ := h
      rfl
    obtain ⟨ms, rfl, hl, k⟩ := h
    refine ⟨_, PSs.nox (pss_cons (ps_if (pt_not (pt_val (pe_callB (id := "isinstance") (isiK (K := K)) (by rfl) T.b_isinstance (by decide +kernel) (pa_cons (pv 1) (pa_cons (pe_bltn (v := .ty "str") rfl T.b_str (by decide +kernel) rfl) pa_nil))))) (pss_one ps_never) pss_nil)
      (pss_cons (ps_set (i := 2) sc_Label_of_text.nd rfl (Or.inl rfl) (pe_ifExp (pt_cmpR op_eq (pv 1) (C8.pe_gc rfl T.c_NO_MARKS) (nomark _)) (pe_lst pa_nil) (pe_split (pv 1) (C8.pe_gc rfl T.c_BETWEEN_MARKS))))
      (pss_cons (ps_if (PW.pt (pw_or (pt_cmpR op_gt (pe_callB (id := "len") (lenK (K := K)) (by rfl) T.b_len (by decide +kernel) (pa_cons (pv 2) pa_nil)) (ClX.pe_cval (pv 0)) (nomark _)) (pw_or (pt_not (pt_val (pe_callB (id := "all") (allK (K := K)) (by rfl) T.b_all (by decide +kernel) (pa_cons (pe_lc (own := [("mark", 3)]) rfl sc_Label_of_text.nd (pi_listK (K := K) (pv 2)) (blkOk_by (own := [("mark", 3)]) (N := n_Label_of_text) (sc := defScope s_Label_of_text) (by decide +kernel)) (fun _ _ _ _ _ => (pg_name (i := 3) sc_Label_of_text.nd rfl (Or.inl rfl))) (fun _ _ _ _ _ => pts_nil) (fun _ _ _ _ _ => (pe_cl C_is_name hr (by decide) pass0 rfl (pa_cons (pv 3) pa_nil)))) pa_nil)))) (pw_or1 (pt_cmpR (neD (K := K) hr.units) (pv 2) (pe_cl C_marks_in_order hr (by decide) pass0 rfl (pa_cons (pv 2) pa_nil)) (nomark _)))))) (pss_one ps_never) pss_nil)
      (pss_one (ps_ret (pe_mkL rfl Y.mkL FI hr (pv 0) (pv 2))))))), ?_⟩
    have hL : ms.length ≤ 4 := hl.le
    refine ⟨_, rfl, _, _, _, _, true, rfl, .ty _, .base (.str _), kit_ty (by decide +kernel), _, rfl, ?_⟩
    refine iteF ?_
    refine ⟨_, rfl, rfl, _, rfl, ?_⟩
    have hlt := lt_len hl
    -- behind marks = ..: a list p of the marks
    refine ite2 (fun h => ?a) (fun h => ?b)
    case' a =>
      have h0 : ms = [] := by
        cases ms with
        | nil => rfl
        | cons m r => exact absurd (of_decide_eq_true h) fun e => lt_ne hl.nm (by injection e)
      refine ⟨szl (Nat.zero_le _), fun p np => ?_⟩
      have e1 := Same.new (u := .lst []) np
      have hp : upd H p (.lst []) p = some (.lst (ms.map V.str)) := by rw [h0]; exact upd_same
      generalize upd H p (.lst []) = H1 at e1 hp
    case' b =>
      refine ⟨_, rfl, ⟨_, rfl⟩, _, _, rfl, rfl, by decide +kernel, szl (by omega), fun p np => ?_⟩
      have h0 : Txt.split (lt ms) "+" = ms := by
        cases ms with
        | nil => exact absurd (decide_eq_true rfl) h
        | cons m r => exact lt_split hl.nm
      rw [h0]
      have e1 := Same.new (u := .lst (ms.map V.str)) np
      have hp := upd_same (H := H) (a := p) (o := .lst (ms.map V.str))
      generalize upd H p (.lst (ms.map V.str)) = H1 at e1 hp
    all_goals
      obtain ⟨mu, hm⟩ := Y.most
      refine ⟨_, rfl, _, ms.length, rfl, .inl ⟨_, SqL.of hp, (List.length_map ..).symm⟩, _, rfl, _, _, _, mu, rfl, Y.rL, hm, _, _, rfl, rfl, _, rfl, ?_⟩
      have h4 : decide ((4 : Int) < (ms.length : Int)) = false := decide_eq_false (by omega)
      rw [h4]
      refine iteF ?_
      refine ⟨_, rfl, p, rfl, ⟨_, SqL.of hp⟩, fun D nD => lcL (K := K) (C := 0) (fun _ => some (.bl true)) (fmSame H1) nD (by rw [List.length_map]; omega) (fun H2 e2 => e2.seq (SqL.of hp)) (fun i d _ e => by cases e; rfl) (fun i x H2 R S hx hM _ hS => ?_) (fun H2 ys hM hD hy => ?_) (fun H2 _ => Same.refl H2)⟩
      · rw [List.getElem?_map, Option.map_eq_some_iff] at hx
        obtain ⟨m, hm, rfl⟩ := hx
        refine ⟨rfl, yes_go ⟨_, rfl, m, rfl, hl.nm m (List.mem_of_getElem? hm), fun H3 e3 => ?_⟩⟩
        exact hS _ _ (.bl true) e3 rfl rfl
      · have e : (List.range (ms.map V.str).length).filterMap (fun _ => some (Dt.bl true)) = ((List.range (ms.map V.str).length).map fun _ => true).map Dt.bl := by
          rw [fm_map, List.map_map]
          rfl
        rw [e] at hy
        have hy := RpA.bls hy
        subst hy
        refine ⟨D, _, rfl, SqL.of hD, _, rfl, ?_⟩
        have e2 : ((List.range (ms.map V.str).length).map fun _ => true).all id = true := by simp
        rw [e2]
        refine iteF ?_
        have hp2 := hM _ _ hp
        have e12 := e1.trans hM
        refine ⟨_, rfl, _, rfl, p, ms, rfl, .inl (SqL.of hp2), hl.rise, hl.nm, by omega, fun H3 q e3 nq hq => ?_⟩
        have hp3 := e3 _ _ hp2
        refine ⟨_, _, Rp.dp (C := 0) (.lst (ms.map Dt.str)) _ (noBA_strs ms) (Rp.lstI (SqL.of hp3) (RpA.strs' ms)), Rp.dp (C := 0) (.lst (ms.map Dt.str)) _ (noBA_strs ms) (Rp.lstI (SqL.of hq) (RpA.strs' ms)), shaped_tS hl.nm, shaped_tS hl.nm, _, rfl, ?_⟩
        have e4 : (!PyData.eqv (toPy (.lst (ms.map Dt.str))) (toPy (.lst (ms.map Dt.str)))) = false := by
          show (!PyData.eqvAll (toPyA (ms.map Dt.str)) (toPyA (ms.map Dt.str))) = false
          rw [eqv_strs]
          simp
        rw [e4]
        refine iteF ?_
        refine ⟨_, rfl, rfl, _, rfl, p, ms, rfl, .inr (SqL.of hp3), hl, fun x H4 e4 r _ => ?_⟩
        exact k x H4 ((e12.trans e3).trans e4) r
  refine (FnOk.raw G (F.bindsN (fun _ _ _ _ _ _ us hl => match us, hl with | [_, _], _ => rfl)) .nil).imp fun vs H Q E q => ?_
  rw [List.append_nil]
  exact q
end
end Abv
set_option Elab.async false
set_option linter.all false
set_option maxRecDepth 100000
set_option maxHeartbeats 4000000
/-! ## str and len of an instance whose class has its own -/
namespace Abv
open PySem PySem.Spec PyProof.Rows L2
/-- the special method nm of the class C is the def f -/
structure Spc (K : PySem.W.Frag) (C : Addr) (nm : Str) (f : Addr) : Prop where
  at_ : PySem.W.findIn K (.ref C) nm = some (some (.ref f))
  fn : PySem.W.isFn K (.ref f) = true
def rStrO (C : Addr) (sp : Sp) : List V → Hp → VK → Prop := fun xs H Q => ∃ a dx fs, xs = [.ref a] ∧ H a = some (.ins C dx fs) ∧ sp [.ref a] H (fun v H' => ∃ z, v = .str z ∧ Q v H') E0
def rLenO (C : Addr) (sp : Sp) : List V → Hp → VK → Prop := fun xs H Q => ∃ a dx fs, xs = [.ref a] ∧ H a = some (.ins C dx fs) ∧ sp [.ref a] H (fun v H' => ∃ n : Int, v = .int n ∧ (0 ≤ n ∧ n < 2 ^ 63) ∧ Q v H') E0
section
variable {X : Cx} {K : PySem.W.Frag} {C f : Addr} {k : Nat} {sp : Sp}
theorem strO (S : Spc K C "__str__" f) (F : FnR X.prog X.w X.K X.mg X.base CX0 k f sp) (hr : Room (k + 2) X.A) (hK : X.K = K := by rfl) : CallR X (.type "str") (rStrO C sp) := by
  subst hK
  intro pins s σ H xs us Q I r h
  obtain ⟨a, dx, fs, rfl, ea, q⟩ := h
  obtain ⟨u, us', rfl, ru, rr⟩ : ∃ u us', us = u :: us' ∧ RelV (.ref a) u ∧ Vals [] us' := by cases r with | cons h t => exact ⟨_, _, rfl, h, t⟩
  cases rr
  obtain rfl : u = Value.ref a := ru
  obtain ⟨mA, O, _⟩ := ins_get I.hok ea
  obtain ⟨od, J, _⟩ := O.look
  refine PySem.W.kso_call (hr.in1.in1.units0) I.kIn J S.at_ S.fn ?_
  refine wpAny_call (codeAny_mono (F _ X.stack s H [.ref a] [.ref a] _ E0 hr.in1.in1 I.env0.in1.in1 (.cons rfl .nil) q) fun r s' hq => ?_)
  cases r with
  | error e => exact False.elim hq
  | ok fl =>
    cases fl with
    | ret u =>
      obtain ⟨v, H', I3, rv, z, rfl, q3⟩ := I.after hq
      obtain ⟨t, rfl⟩ := rv
      exact ⟨.str z, H', I3, ⟨t, rfl⟩, q3⟩
    | next => exact False.elim hq
    | brk => exact False.elim hq
    | cont => exact False.elim hq
theorem lenO (S : Spc K C "__len__" f) (F : FnR X.prog X.w X.K X.mg X.base CX0 k f sp) (hr : Room (k + 2) X.A) (hK : X.K = K := by rfl) : CallR X (.builtin "len") (rLenO C sp) := by
  subst hK
  intro pins s σ H xs us Q I r h
  obtain ⟨a, dx, fs, rfl, ea, q⟩ := h
  obtain ⟨u, us', rfl, ru, rr⟩ : ∃ u us', us = u :: us' ∧ RelV (.ref a) u ∧ Vals [] us' := by cases r with | cons h t => exact ⟨_, _, rfl, h, t⟩
  cases rr
  obtain rfl : u = Value.ref a := ru
  obtain ⟨mA, O, _⟩ := ins_get I.hok ea
  obtain ⟨od, J, _⟩ := O.look
  obtain ⟨m, fr⟩ := I.fr
  refine PySem.W.len_K fr I.ok.mod.kin J S.at_ S.fn ?_
  refine wpAny_call (codeAny_mono (F _ X.stack s H [.ref a] [.ref a] _ E0 (hr.in1.mono (by omega)) I.env0.in1 (.cons rfl .nil) q) fun r s' hq => ?_)
  cases r with
  | error e => exact False.elim hq
  | ok fl =>
    cases fl with
    | ret u =>
      obtain ⟨v, H', I3, rv, n, rfl, hn, q3⟩ := I.after hq
      obtain ⟨t, rfl⟩ := rv
      exact ⟨hn, .int n, H', I3.kept (h' := s'.heap) (t' := s'.toks + 1) (fun b o e => e), ⟨_, rfl⟩, q3⟩
    | next => exact False.elim hq
    | brk => exact False.elim hq
    | cont => exact False.elim hq
end
end Abv
set_option Elab.async false
set_option linter.all false
set_option maxRecDepth 100000
set_option maxHeartbeats 4000000
/-! ## `for` in a generator's body -/
namespace Abv
open PySem PySem.Spec PyProof.Rows L2 GenW
section
variable {M : Model} {A : Around} {R : GenEnd} {Y : Protocol} {n : Nat} {s₀ : Shared} {c : Code} {fs : List Frame} {s : Shared} {env : Env}
  {K : Flow → Sem PySem.Fin} {H : Value → Sem PySem.Fin} {gd : Bool → Bool} {lv : List Value → List Value} {target iter : Expr} {body : List Stmt} {pos : Pos}
theorem segFor (hs : ∀ x, foldedSetIterable iter env x = pure x)
    (h : wpAny M (A.over c fs) (eval iter env) (fun x s1 => wpAny M (A.over c fs) (pyIter x) (fun it s2 =>
      ∀ p, Seg M A R Y n s₀ (.forLoop target it body [] env) (M.den (.forLoop target it body [] env)) (.ret (fun r => ((match r with | .ok f => (.pure f : Sem Flow) | .error e => .raise e).onRaise (cameBack env)).wrap K H gd lv) none (gd false) (lv []) c p [] :: fs) s2)
      (fun e s' => Seg M A R Y n s₀ c (H e) fs s') s1) (fun e s' => Seg M A R Y n s₀ c (H e) fs s') s) :
    Seg M A R Y n s₀ c ((exec (.For target iter body [] pos) env).wrap K H gd lv) fs s := by
  rw [arm_exec_For]
  refine seg_bind_wrap (wpAny_standAt (seg_bind_wrap (wpAny_mono h (fun x s1 h1 => ?_) fun _ _ z => z)))
  refine seg_bind_wrap (wpAny_of_eq (hs x) (seg_bind_wrap (wpAny_standAt (seg_bind_wrap (wpAny_holding (wpAny_mono h1 (fun it s2 h2 => ?_) fun _ _ z => z))))))
  exact seg_call h2
end
section
variable {P : Program} {w : World} {A : Around} {R : GenEnd} {Y : Protocol} {n : Nat} {s₀ : Shared} {fs : List Frame} {s : Shared} {env : Env} {target : Expr} {it : Value} {body : List Stmt}
/-- an exception leaves the loop's own code -/
def leaveLoop (env : Env) (e : Value) : Sem PySem.Fin := (do noteFrame e env; theTreesLotGoes e : Sem Unit).wrap (fun _ => .raise e) .raise id id
theorem segForLoop
    (h : wpAny (model P w) (A.over (.forLoop target it body [] env) fs) (pyNext it) (fun r s1 => match r with
      | none => Seg (model P w) A R Y n s₀ (.forLoop target it body [] env) (.pure (.again (.block [] env))) fs s1
      | some v => wpAny (model P w) (A.over (.forLoop target it body [] env) fs) (letOwnedTupleGo target it v) (fun _ s2 => wpAny (model P w) (A.over (.forLoop target it body [] env) fs) (assign target env v) (fun _ s3 =>
          Seg (model P w) A R Y n s₀ (.forLoop target it body [] env) ((execs body env).wrap (fun f => match f with
            | .next | .cont => .pure (.again (.forLoop target it body [] env))
            | .brk => .pure (.done .next)
            | .ret v => .pure (.done (.ret v))) (leaveLoop env) id id) fs s3)
          (fun x s' => Seg (model P w) A R Y n s₀ (.forLoop target it body [] env) (leaveLoop env x) fs s') s2) (fun x s' => Seg (model P w) A R Y n s₀ (.forLoop target it body [] env) (leaveLoop env x) fs s') s1)
      (fun x s' => Seg (model P w) A R Y n s₀ (.forLoop target it body [] env) (leaveLoop env x) fs s') s) :
    Seg (model P w) A R Y n s₀ (.forLoop target it body [] env) ((model P w).den (.forLoop target it body [] env)) fs s := by
  have hle : ∀ e : Value, (do noteFrame e env; theTreesLotGoes e : Sem Unit).bind (fun _ => (.raise e : Sem PySem.Fin)) = leaveLoop env e := fun e => Sem.bind_eq_wrap _ _
  show Seg _ A R Y n s₀ _ ((forTurn target it body [] env).onRaise (fun x => do noteFrame x env; theTreesLotGoes x)) fs s
  unfold forTurn
  rw [Sem.onRaise_eq_wrap]
  rw [Sem.wrap_congr _ _ _ (fun f => rfl) hle]
  refine seg_bind_wrap (wpAny_standAt (seg_bind_wrap (wpAny_onRaise (wpAny_mono h (fun r s1 h1 => ?_) fun _ _ h' => wpAny_standAt h'))))
  cases r with
  | none => exact h1
  | some v =>
    refine seg_bind_wrap (wpAny_mono h1 (fun _ s2 h2 => ?_) fun _ _ z => z)
    refine seg_bind_wrap (wpAny_mono h2 (fun _ s3 h3 => ?_) fun _ _ z => z)
    rw [Sem.bind_eq_wrap', Sem.wrap_wrap]
    rw [Sem.wrap_congr (execs body env) _ _ (K' := fun f => match f with
            | .next | .cont => .pure (.again (.forLoop target it body [] env))
            | .brk => .pure (.done .next)
            | .ret v => .pure (.done (.ret v))) (H := fun e => Sem.wrap Sem.pure (leaveLoop env) id id (Sem.raise e)) (H' := leaveLoop env) (fun f => by cases f <;> rfl) (fun e => rfl)]
    exact h3
end
section
variable {X : Cx}
theorem gc_forLoop {S : Addr} {ip ip' : List (Addr × Obj)} {A : Around} {c c' : Code} {fs : List Frame} {gd : Bool → Bool} {k : Result → Sem PySem.Fin} {l kp : List Value} {p : Pos} (g : GC X S ip A c fs gd) (hip : ∀ p ∈ ip', p.1 ≠ S) (hw : c'.weight = 0) (hu : c'.cUnits = 0) :
    GC X S ip' A c' (.ret k none (gd false) l c p kp :: fs) id where
  pn := g.pn
  ip := hip
  apart := g.apart
  over := (over_loop hw hu).trans g.over
  split := (gc_loop (k := k) (l := l) (kp := kp) (p := p) g hw hu).split
  guard := (gc_loop (k := k) (l := l) (kp := kp) (p := p) g hw hu).guard
  gd := rfl
/-- for, in a generator: W by the turn, a measure and what is out -/
def tGFor (wi : TI) (g : TG) (tb : TGn) : TGn := fun D ys σ H => wi σ H fun J H1 => ∃ W : Nat → Nat → List V → L2.St → Hp → Prop, (∃ m, W 0 m ys σ H1) ∧ ∀ i m ys σ H, W i m ys σ H →
  (J.stop i H ∧ D.nx ys σ H) ∨ (J.go i H ∧ ∃ N : List V → L2.St → Hp → Prop, (∀ ys' σ' H', N ys' σ' H' → ∃ m', m' < m ∧ W (i + 1) m' ys' σ' H') ∧ ∀ x H', J.yld i H x H' → g x σ H' fun σ2 H2 => tb { D with nx := N, ct := N, bk := D.nx } ys σ2 H2)
theorem gs_for {tg iter : Expr} {body : List Stmt} {pos : Pos} {wi : TI} {g : TG} {tb : TGn} (hp : PassesOwn (model X.prog X.w) X.A X.env X.xe) (hc : X.calm = true) (hi : PI X tg iter wi) (hg : PG X tg g) (hb : GSs X body tb)
    (hs : ∀ x, foldedSetIterable iter X.env x = pure x := by intro _; rfl) : GS X (.For tg iter body [] pos) (tGFor wi g tb) := by
  refine ⟨fun A S ip R n ys s₀ c fs K J gd lv s σ H D gc hn k hI ht => ?_⟩
  obtain ⟨acc, cc, rv, I⟩ := hI
  refine segFor hs ?_
  rw [gc.over]
  refine wpAny_mono (hi.run _ s σ H _ I ht) (fun v s1 h1 => wpAny_mono h1 (fun itv s2 h2 p => ?_) fun x s' hx => k.exc n s₀ x s' hx) fun x s' hx => k.exc n s₀ x s' hx
  obtain ⟨it, fp, tn, Jt, H2, rfl, I2, T, st2, f2, W, ⟨m0, w0⟩, turn⟩ := h2
  have fS : ∀ b ∈ fp, b ≠ S := fun b hb e => (f2 b hb).2.2.2.2.2 (S, lstObj acc cc) (List.mem_append_right _ List.mem_cons_self) e.symm
  have stat : ∀ {H' : Hp} {acc' : Array Value} {c' : Nat}, (∀ b ∈ fp, H' b = none) → ∀ b ∈ fp, FpOk X ((S, lstObj acc' c') :: ip) H' b := fun {H' acc' c'} hn b hb => by
    obtain ⟨_, a1, a2, a3, a4, a5⟩ := f2 b hb
    refine ⟨hn b hb, a1, a2, a3, a4, fun q hq => ?_⟩
    rcases List.mem_append.mp hq with z | z
    · exact a5 q (List.mem_append_left _ z)
    · rcases List.mem_cons.mp z with z | z
      · rw [z]
        exact (fS b hb).symm
      · exact a5 q (List.mem_append_right _ (List.mem_cons_of_mem _ z))
  have loop : ∀ (m i n : Nat) (ys : List V) (s₀ s : Shared) (σ : L2.St) (H : Hp), n + ys.length = sizeLine → W i m ys σ H → GI X S ip ys σ H s → tn i s.heap → (∀ b ∈ fp, H b = none) →
      Seg (model X.prog X.w) A R (GY X S) n s₀ (.forLoop tg (.ref it) body [] X.env) ((model X.prog X.w).den (.forLoop tg (.ref it) body [] X.env))
        (.ret (fun r => ((match r with | .ok f => (.pure f : Sem Flow) | .error e => .raise e).onRaise (cameBack X.env)).wrap K J gd lv) none (gd false) (lv []) c p [] :: fs) s := by
    intro m
    induction m using Nat.strongRecOn with
    | ind m ih =>
      intro i n ys s₀ s3 σ3 H3 hn w3 hI3 st3 fr3
      have gl := fun (ip' : List (Addr × Obj)) (hip : ∀ p ∈ ip', p.1 ≠ S) (kk : Result → Sem PySem.Fin) => gc_forLoop (k := kk) (c' := .forLoop tg (.ref it) body [] X.env) (l := lv []) (kp := []) (p := p) gc hip rfl rfl
      have ee : ∀ (n : Nat) (s₀ : Shared) (x : Value) (s' : Shared), X.xe x s' → Seg (model X.prog X.w) A R (GY X S) n s₀ (.forLoop tg (.ref it) body [] X.env) (leaveLoop X.env x)
          (.ret (fun r => ((match r with | .ok f => (.pure f : Sem Flow) | .error e => .raise e).onRaise (cameBack X.env)).wrap K J gd lv) none (gd false) (lv []) c p [] :: fs) s' := fun n s₀ x s' hx => by
        refine seg_wrap ?_
        rw [(gl ip gc.ip _).over]
        refine wpAny_bind (wpAny_mono (hp x s' hx) (fun _ s'' hcb => wpAny_theTreesLotGoes ?_) fun y s'' hcb => ?_)
        · exact seg_leaf (.error x) (seg_cameBack gc k hcb)
        · exact seg_leaf (.error y) (seg_cameBack gc k hcb)
      obtain ⟨acc3, c3, rv3, I3⟩ := hI3
      refine segForLoop ?_
      rw [(gl ip gc.ip _).over]
      rcases turn i m ys σ3 H3 w3 with ⟨stop, qn⟩ | ⟨go, N, hN, step⟩
      · refine wpAny_mono (T.done X rfl rfl rfl hc i _ s3 σ3 H3 X.xe I3 (stat fr3) st3 stop) (fun r s4 hr => ?_) fun x s' hx => ee n s₀ x s' hx
        obtain ⟨rfl, I4⟩ := hr
        exact seg_again rfl (seg_leaf (.ok .next) (k.ok n ys s₀ s4 .next hn ⟨σ3, H3, ⟨acc3, c3, rv3, I4⟩, qn⟩))
      · refine wpAny_mono (T.item X rfl rfl rfl hc i _ s3 σ3 H3 X.xe I3 (stat fr3) st3 go) (fun r s4 hr => ?_) fun x s' hx => ee n s₀ x s' hx
        obtain ⟨u, rfl, h4⟩ := hr
        refine wpAny_mono h4 (fun _ s5 h5 => ?_) fun x s' hx => ee n s₀ x s' hx
        obtain ⟨x, H5, I5, r5, y5, st5, fr5⟩ := h5
        have I5' := I5.pinned (stat fr5) (T.obj _ _ st5)
        refine wpAny_mono (hg.run _ s5 σ3 H5 x u _ I5' r5 (step x H5 y5)) (fun _ s6 h6 => ?_) fun x s' hx => ee n s₀ x s' hx
        obtain ⟨σ6, H6, I6, q6⟩ := h6
        have hip : ∀ q ∈ ip ++ pinsAt fp s5.heap, q.1 ≠ S := fun q hq => by
          rcases List.mem_append.mp hq with z | z
          · exact gc.ip q z
          · exact fS _ (of_pinsAt z).1
        refine hb.run A S (ip ++ pinsAt fp s5.heap) R n ys s₀ _ _ _ _ id id s6 σ6 H6 { D with nx := N, ct := N, bk := D.nx } (gl _ hip _) hn ⟨fun n' ys' s₀' s7 f hn' hs => ?_, fun n' s₀' x s7 hx => ee n' s₀' x s7 hx⟩ ⟨acc3, c3, rv3, I6⟩ q6
        have again : ∀ {σ7 : L2.St} {H7 : Hp}, GI X S (ip ++ pinsAt fp s5.heap) ys' σ7 H7 s7 → N ys' σ7 H7 → Seg (model X.prog X.w) A R (GY X S) n' s₀' (.forLoop tg (.ref it) body [] X.env) (.pure (.again (.forLoop tg (.ref it) body [] X.env)))
            (.ret (fun r => ((match r with | .ok f => (.pure f : Sem Flow) | .error e => .raise e).onRaise (cameBack X.env)).wrap K J gd lv) none (gd false) (lv []) c p [] :: fs) s7 := fun {σ7 H7} I7 n7 => by
          obtain ⟨m', hm, w7⟩ := hN ys' σ7 H7 n7
          obtain ⟨acc7, c7, rv7, I7⟩ := I7
          have pin7 : ∀ b ∈ fp, ∀ o, s5.heap.get? b = some o → _ := fun b hb o e => I7.pin (b, o) (List.mem_append_right _ (List.mem_cons_of_mem _ (List.mem_append_right _ (mem_pinsAt hb e))))
          refine seg_again rfl (ih m' hm (i + 1) n' ys' s₀' s7 σ7 H7 hn' w7 ⟨acc7, c7, rv7, I7.unpinned (pins := (S, lstObj acc7 c7) :: ip)⟩ (T.keep _ _ _ st5 fun b hb o e => (pin7 b hb o e).1) fun b hb => ?_)
          obtain ⟨o, e, _⟩ := T.obj _ _ st5 b hb
          exact (pin7 b hb o e).2.1
        have back : ∀ {σ7 : L2.St} {H7 : Hp}, GI X S (ip ++ pinsAt fp s5.heap) ys' σ7 H7 s7 → GI X S ip ys' σ7 H7 s7 := fun {σ7 H7} I7 => by
          obtain ⟨acc7, c7, rv7, I7⟩ := I7
          exact ⟨acc7, c7, rv7, I7.unpinned (pins := (S, lstObj acc7 c7) :: ip)⟩
        cases f with
        | next =>
          obtain ⟨σ7, H7, I7, n7⟩ := hs
          exact again I7 n7
        | cont =>
          obtain ⟨σ7, H7, I7, n7⟩ := hs
          exact again I7 n7
        | brk =>
          obtain ⟨σ7, H7, I7, q7⟩ := hs
          exact seg_leaf (.ok .next) (k.ok n' ys' s₀' s7 .next hn' ⟨σ7, H7, back I7, q7⟩)
        | ret v =>
          obtain ⟨x7, σ7, H7, I7, r7, q7⟩ := hs
          exact seg_leaf (.ok (.ret v)) (k.ok n' ys' s₀' s7 (.ret v) hn' ⟨x7, σ7, H7, back I7, r7, q7⟩)
  exact loop m0 0 n ys s₀ s2 σ H2 hn w0 ⟨acc, cc, rv, I2⟩ st2 fun b hb => (f2 b hb).1
/-- such a for, by what holds at each turn -/
theorem forG {J : It} {g : TG} {tb : TGn} {D : GEnds} {ys : List V} {σ : L2.St} {H : Hp} (n : Nat) (Pv : Nat → List V → L2.St → Hp → Prop) (h0 : Pv 0 ys σ H) (hgo : ∀ i ys σ H, i < n → Pv i ys σ H → J.go i H) (hstop : ∀ ys σ H, Pv n ys σ H → J.stop n H)
    (hs : ∀ i x ys σ H H', i < n → Pv i ys σ H → J.yld i H x H' → g x σ H' fun σ2 H2 => tb { D with nx := Pv (i + 1), ct := Pv (i + 1), bk := D.nx } ys σ2 H2) (hd : ∀ ys σ H, Pv n ys σ H → D.nx ys σ H) :
    ∃ W : Nat → Nat → List V → L2.St → Hp → Prop, (∃ m, W 0 m ys σ H) ∧ ∀ i m ys σ H, W i m ys σ H →
      (J.stop i H ∧ D.nx ys σ H) ∨ (J.go i H ∧ ∃ N : List V → L2.St → Hp → Prop, (∀ ys' σ' H', N ys' σ' H' → ∃ m', m' < m ∧ W (i + 1) m' ys' σ' H') ∧ ∀ x H', J.yld i H x H' → g x σ H' fun σ2 H2 => tb { D with nx := N, ct := N, bk := D.nx } ys σ2 H2) := by
  refine ⟨fun i m ys σ H => m = n - i ∧ i ≤ n ∧ Pv i ys σ H, ⟨n, rfl, Nat.zero_le _, h0⟩, ?_⟩
  rintro i m ys σ H ⟨rfl, hi, p⟩
  by_cases hlt : i < n
  · exact Or.inr ⟨hgo i ys σ H hlt p, Pv (i + 1), fun ys' σ' H' q => ⟨n - (i + 1), by omega, rfl, by omega, q⟩, fun x H' hy => hs i x ys σ H H' hlt p hy⟩
  · obtain rfl : i = n := by omega
    exact Or.inl ⟨hstop ys σ H p, hd ys σ H p⟩
end
end Abv
set_option Elab.async false
set_option linter.all false
set_option maxRecDepth 100000
set_option maxHeartbeats 4000000
/-! ## str(label), labels below -/
namespace Abv
open PySem PySem.Spec PyProof.Rows L2 TL
section
variable {P : Program} {w : World} {K : PySem.W.Frag} {mg : Str → Option Value} {base : Heap}
/-- a method's promise, by its body -/
theorem ofDF {CX : CXT} {g : Addr} {m qual : Str} {st : Stmt} {N ps : List Str} {k : Nat} {sp : Sp} (D : DF K g m qual st) (S : FnScope N ps (defScope st))
    (hbind : ∀ (kV doc pm : Value) (an : Option Addr) (cdv ct : Value) (us : List Value), us.length = ps.length → bindArgs (PySem.W.fnOf m qual (defArgs st) (defBody st) (defScope st) .none kV doc pm an cdv ct) ⟨us, []⟩ = pure (ps.zip us))
    (len : ∀ vs H Q E, sp vs H Q E → vs.length = ps.length)
    (hbody : ∀ (cdv : Value) (A : Around) (outer : List Env) (s : Shared) (H : Hp) (vs : List V) (Q : VK) (E : XK), Room k (A.deeper (envOfC qual (defScope st) s.heap.objs.size g cdv)) → sp vs H Q E →
      ∃ t, PSs (cxOf CX P w K mg base N qual (defScope st) g cdv A outer s H E) (defBody st) t ∧ t { nx := fun _ H' => Q .non H', rt := Q } (start N vs) H) :
    FnR P w K mg base CX (k + 1) g sp := by
  obtain ⟨fd, F⟩ := D
  have G : FnOk P w K mg base CX (k + 1) g fd ps sp := F.ok S len hbody
  have R := FnOk.raw G (F.bindsN hbind) .nil
  exact R.imp fun vs H Q E q => by rw [List.append_nil]; exact q
def spStr (K : PySem.W.Frag) : Sp := fun vs H Q _ => ∃ a ms, vs = [.ref a] ∧ Rp K (CL K) H (.lab ms) (.ref a) ∧ LblOk ms ∧ ∀ H', Same H H' → Q (.str (lt ms)) H'
abbrev s_Label___str__ : Stmt := inClass (top 37) 10
abbrev n_Label___str__ : List Str := ["self"]
theorem sc_Label___str__ : FnScope n_Label___str__ ["self"] (defScope s_Label___str__) := ⟨rfl, rfl, rfl, by decide +kernel, rfl, by decide +kernel, by decide +kernel⟩
theorem ok_str (T : Tx K mg) (Y : Ty K) : FnR P w K mg base CX0 1 (He.ma K (CL K) "__str__") (spStr K) := by
  refine ofDF Y.lstr.2 sc_Label___str__ (fun _ _ _ _ _ _ us hl => match us, hl with | [_], _ => rfl) (fun vs H Q E h => ?_) (fun cdv A outer s H vs Q E hr h => ?_)
  · obtain ⟨a, ms, rfl, _⟩ := h
    rfl
  obtain ⟨a, ms, rfl, hv, hl, k⟩ := h
  refine ⟨_, PSs.nox (pss_cons (ps_if (pt_cmpR (eqD (K := K) hr.units) (pe_fldK (K := K) (pv 0)) (pe_tup pa_nil) (nomark _)) (pss_one (ps_ret pe_str)) pss_nil)
      (pss_one (ps_ret (pe_joinK (K := K) pe_str (pe_fldK (K := K) (pv 0)))))), ?_⟩
  unfold Rp at hv
  obtain ⟨a', dx, t, ea, h2, h3⟩ := hv
  obtain rfl : a = a' := by injection ea
  refine ⟨_, rfl, a, CL K, dx, _, _, rfl, h2, Y.cL, Y.aM, rfl, szl (Nat.zero_le _), fun q nq => ?_⟩
  have e1 := Same.new (u := .tup []) nq
  have h4 := e1 _ _ h2
  have h5 := Same.seqT e1 h3
  have hq : SqT K (upd H q (.tup [])) q [] := .inl (.inl upd_same)
  refine ⟨_, _, Rp.dp (C := 0) (tS ms) _ (noBA_strs ms) (Rp.tS_of h5), .tup hq .nil, shaped_tS hl.nm, rfl, _, rfl, ?_⟩
  rw [eqv_nil]
  cases ms with
  | nil => exact iteT (k _ e1)
  | cons m r =>
    refine iteF ⟨⟨_, rfl⟩, _, rfl, a, CL K, dx, _, _, rfl, h4, Y.cL, Y.aM, rfl, ?_⟩
    refine ⟨_, t, m :: r, rfl, rfl, .inr h5, ?_, k _ e1⟩
    have h1 := names_sum hl.nm
    have h2 := hl.le
    have h3 : (Str.ofString "+").length = 1 := by decide +kernel
    rw [h3]
    omega
/-! ### _law_made_label -/
def sp_law_made_label (K : PySem.W.Frag) : Sp := fun vs H Q _ => ∃ v ms, vs = [v] ∧ Rp K (CL K) H (tS ms) v ∧ LblOk ms ∧ ∀ x H', Same H H' → Rp K (CL K) H' (.lab ms) (.ref x) → Q (.ref x) H'
abbrev s__law_made_label : Stmt := top 51
abbrev n__law_made_label : List Str := ["_law_low"]
theorem sc__law_made_label : FnScope n__law_made_label ["_law_low"] (defScope s__law_made_label) := ⟨rfl, rfl, rfl, by decide +kernel, rfl, by decide +kernel, by decide +kernel⟩
theorem ok_law_made_label (T : Tx K mg) (Y : Ty K) : Cl CX0 P w K mg base 6 "_law_made_label" (sp_law_made_label K) := by
  have C__law_label_text : Cl CX0 P w K mg base 1 "_law_label_text" (sp_law_label_text K) := ok_law_label_text T
  obtain ⟨p, g, hc, FO⟩ := ok_of_text (P := P) (w := w) (base := base) T Y
  refine cl0 T.f__law_made_label sc__law_made_label (fun _ _ _ _ _ _ us hl => match us, hl with | [_], _ => rfl) (fun vs H Q E h => ?_) (fun f cdv A outer s H vs Q E hr h => ?_)
  · obtain ⟨v, ms, rfl, _⟩ := h
    rfl
  obtain ⟨v, ms, rfl, hv, hl, k⟩ := h
  refine ⟨_, (pss_one (ps_ret (ClX.pe_cmeth (pe_glob (v := .ref (He.ga K "Label")) rfl T.g_Label rfl) Y.rL hc FO hr pass0 (pa_cons (pe_cl C__law_label_text hr (by decide) pass0 rfl (pa_cons (pv 0) pa_nil)) pa_nil)))), ?_⟩
  refine ⟨rfl, _, rfl, v, ms, rfl, hv, hl, fun H1 e1 => ⟨ms, rfl, hl, fun x H2 e2 r => k x H2 (e1.trans e2) r⟩⟩
/-! ### below -/
theorem chs_le (ms : List Str) : ∀ n, (chs ms n).length ≤ ms.length ^ n
  | 0 => Nat.le_refl _
  | n + 1 => by
    have h1 : ∀ l : List (List Str), (l.flatMap fun c => (ms.filter (okc c)).map fun m => c ++ [m]).length ≤ l.length * ms.length := by
      intro l
      induction l with
      | nil => exact Nat.zero_le _
      | cons c l ih =>
        rw [List.flatMap_cons, List.length_append, List.length_map, List.length_cons, Nat.succ_mul]
        have := List.length_filter_le (okc c) ms
        omega
    rw [chs, Nat.pow_succ]
    exact Nat.le_trans (h1 _) (Nat.mul_le_mul_right _ (chs_le ms n))
theorem chs_le' {ms : List Str} (h : ms.length ≤ 4) (n : Nat) (hn : n ≤ 4) : (chs ms n).length ≤ 256 :=
  Nat.le_trans (chs_le ms n) (Nat.le_trans (Nat.pow_le_pow_left h n) (Nat.le_trans (Nat.pow_le_pow_right (by decide) hn) (by decide)))
theorem chs_rise {ms : List Str} : ∀ (n : Nat) (c : List Str), c ∈ chs ms n → Rise c
  | 0, c, hc => by
    have : c = [] := by simpa [chs] using hc
    rw [this]
    exact List.Pairwise.nil
  | n + 1, c, hc => by
    rw [chs, List.mem_flatMap] at hc
    obtain ⟨c', h1, h2⟩ := hc
    obtain ⟨m, hm, rfl⟩ := List.mem_map.mp h2
    have ih := chs_rise n c' h1
    have ho := (List.mem_filter.mp hm).2
    refine List.pairwise_append.mpr ⟨ih, List.pairwise_singleton _ _, fun x hx y hy => ?_⟩
    rw [List.mem_singleton.mp hy]
    rcases List.eq_nil_or_concat c' with rfl | ⟨pre, z, hz⟩
    · cases hx
    · rw [List.concat_eq_append] at hz
      subst hz
      unfold okc at ho
      rw [List.getLast?_concat] at ho
      have hzm : slt z m := of_decide_eq_true ho
      rcases List.mem_append.mp hx with hx | hx
      · exact slt_trans ((List.pairwise_append.mp ih).2.2 x hx z (List.mem_singleton_self _)) hzm
      · rw [List.mem_singleton.mp hx]
        exact hzm
theorem chs_ok {ms : List Str} (h : LblOk ms) (n : Nat) (c : List Str) (hn : n ≤ 4) (hc : c ∈ chs ms n) : LblOk c :=
  ⟨chs_rise n c hc, fun m hm => h.nm m (chs_mem ms n c hc m hm), by rw [chs_len ms n c hc]; exact hn⟩
/-- the marks of the labels below -/
def belows (ms : List Str) : List (List Str) := (List.range (ms.length + 1)).flatMap (chs ms)
def spBelow (K : PySem.W.Frag) : SpG := fun vs H Q _ => ∃ a ms, vs = [.ref a] ∧ Rp K (CL K) H (.lab ms) (.ref a) ∧ LblOk ms ∧ ∀ H' ys, Same H H' → RpA K (CL K) H' ((belows ms).map Dt.lab) ys → Q ys H'
abbrev s_below : Stmt := inClass (top 37) 5
abbrev n_below : List Str := ["self", "many", "marks"]
theorem sc_below : GScope n_below ["self"] (defScope s_below) := ⟨rfl, rfl, rfl, by decide +kernel, rfl, by decide +kernel, by decide +kernel⟩
theorem ok_below (T : Tx K mg) (Y : Ty K) : ∃ fd, GFn P w K mg base 5 (He.ma K (CL K) "below") fd ["self"] (spBelow K) ∧ Binds K fd ["self"] [] := by
  have C_choices : Cl CX0 P w K mg base 1 "choices" (sp_choices K) := ok_choices T
  have FI : FnR P w K mg base CX0 3 (He.ma K (CL K) "__init__") (spLabI K) := ok_LabelI T Y
  obtain ⟨fd, F⟩ := Y.below.2
  have hb : Binds K fd ["self"] [] := F.bindsN (fun _ _ _ _ _ _ us hl => match us, hl with | [_], _ => rfl)
  refine ⟨fd, ?_, hb⟩
  obtain ⟨oc, od, dV, kV, doc, pm, an, cdv, ct, osl, rfl, lk, hcd, hD, hK⟩ := F.ex
  refine gfn_of (k := 4) (sp := spBelow K) lk hcd sc_below (fun vs H Q E h => ?_) (fun A outer s H vs Q E pn hr h => ?_)
  · obtain ⟨a, ms, rfl, _⟩ := h
    rfl
  obtain ⟨a, ms, rfl, hv, hl, k⟩ := h
  refine ⟨_, gss_cons (gs_for owns_gcx rfl (pi_range1 rfl T.b_range (pa_cons (pe_op op_add (pe_callB (id := "len") (lenK (K := K)) (by rfl) T.b_len (by decide +kernel) (pa_cons (pe_fldK (K := K) (pv 0)) pa_nil)) pe_int) pa_nil)) (pg_name (i := 1) sc_below.nd rfl (Or.inl rfl))
    (gss_cons (gs_for owns_gcx rfl (pi_listK (K := K) (pe_cl C_choices hr (by decide) pass0 rfl (pa_cons (pe_fldK (K := K) (pv 0)) (pa_cons (pv 1) pa_nil)))) (pg_name (i := 2) sc_below.nd rfl (Or.inl rfl))
      (gss_cons (gs_yield (pe_mkL rfl Y.mkL FI hr (pe_glob (v := .ref (He.ga K "Label")) rfl T.g_Label rfl) (pv 2))) gss_nil)) gss_nil)) gss_nil, ?_⟩
  have hL := hl.le
  obtain ⟨a', dx, t, ea, h2, h3⟩ := (show ∃ a' dx t, V.ref a = .ref a' ∧ H a' = some (.ins (CL K) dx [("own_marks", .ref t)]) ∧ SqT K H t (ms.map V.str) by
    unfold Rp at hv
    exact hv)
  obtain rfl : a = a' := by injection ea
  refine ⟨_, rfl, a, CL K, dx, _, _, rfl, h2, Y.cL, Y.aM, rfl, _, ms.length, rfl, .inr ⟨_, h3, (List.length_map ..).symm⟩, _, _, rfl, rfl, ((ms.length + 1 : Nat) : Int), rfl, by omega, by omega, ?_⟩
  rw [Int.toNat_natCast]
  refine forG (ms.length + 1) (fun i ys σ H1 => Same H H1 ∧ RpA K (CL K) H1 (((List.range i).flatMap (chs ms)).map Dt.lab) ys ∧ ys.length ≤ i * 256 ∧ ∃ x y, σ = [some (.ref a), x, y]) ⟨Same.refl H, RpA.nil, by simp, none, none, rfl⟩ (fun i ys σ H1 hi _ => hi) (fun ys σ H1 _ => Nat.le_refl _) ?_ ?_
  · rintro i x ys σ H1 H2 hi ⟨e1, hr1, hy, x0, y0, rfl⟩ ⟨rfl, rfl⟩
    have hci := chs_le' hL i (by omega)
    refine ⟨_, rfl, a, CL K, dx, _, _, rfl, e1 _ _ h2, Y.cL, Y.aM, rfl, _, rfl, t, ms, i, ?_, Same.seqT e1 h3, hl, by omega, fun j hj => Nat.le_trans (chs_le' hL j (by omega)) (by decide), fun H3 p zs e3 np hp hr3 => ?_⟩
    · show [V.ref t, V.int (0 + (i : Int))] = _
      rw [Int.zero_add]
    have hz : zs.length = (chs ms i).length := by rw [hr3.len, List.length_map]
    refine ⟨p, rfl, ⟨zs, SqL.of hp⟩, ?_⟩
    refine forG zs.length (fun j ys' σ H4 => Same H3 H4 ∧ RpA K (CL K) H4 (((List.range i).flatMap (chs ms) ++ (chs ms i).take j).map Dt.lab) ys' ∧ ys'.length = ys.length + j ∧ ∃ y, σ = [some (.ref a), some (.int (0 + i)), y]) ?_ ?_ ?_ ?_ ?_
    · refine ⟨Same.refl _, ?_, rfl, y0, rfl⟩
      rw [List.take_zero, List.append_nil]
      exact RpA.same e3 _ _ hr1
    · exact fun j ys' σ H4 hj h => ⟨zs, _, h.1.seq (SqL.of hp), List.getElem?_eq_getElem hj⟩
    · exact fun ys' σ H4 h => ⟨zs, h.1.seq (SqL.of hp), Nat.le_refl _⟩
    · rintro j x ys' σ H4 H5 hj ⟨e4, hr4, hl4, y, rfl⟩ ⟨rfl, hx⟩
      have hx := hx zs (e4.seq (SqL.of hp))
      obtain ⟨d, h6, h7⟩ := hr3.get hx
      rw [List.getElem?_map, Option.map_eq_some_iff] at h6
      obtain ⟨c, hc, rfl⟩ := h6
      obtain ⟨b, rfl, hb1⟩ := Rp.tS_at h7
      have hcm := List.mem_of_getElem? hc
      refine ⟨?_, ⟨rfl, _, rfl, b, c, rfl, .inl (Same.seqT e4 hb1), chs_ok hl i c (by omega) hcm, fun x H6 e6 r6 _ => ?_⟩⟩
      · rw [hl4, sizeLine_eq]
        omega
      · refine ⟨e4.trans e6, ?_, ?_, _, rfl⟩
        · rw [List.take_add_one, hc, ← List.append_assoc, List.map_append]
          exact RpA.append (RpA.same e6 _ _ hr4) (RpA.one r6)
        · rw [List.length_append, hl4]
          rfl
    · rintro ys' σ H4 ⟨e4, hr4, hl4, y, rfl⟩
      refine ⟨e1.trans (e3.trans e4), ?_, ?_, _, _, rfl⟩
      · rw [hz, List.take_length] at hr4
        rw [List.range_succ, List.flatMap_append]
        simpa using hr4
      · rw [hl4, hz]
        omega
  · rintro ys σ H1 ⟨e1, hr1, _, x, y, rfl⟩
    exact k H1 ys e1 hr1
end
end Abv
set_option Elab.async false
set_option linter.all false
set_option maxRecDepth 100000
set_option maxHeartbeats 4000000
/-! ## Own exceptions, over any built-in class: fields, `__init__` with super() -/
namespace Abv
open PySem PySem.Spec PyProof.Rows L2 Builtin Builtin.ObjectAttr
/-- what the written part says of an own exception class over the built-in Bn -/
structure ExC (K : PySem.W.Frag) (C : Addr) (Bn nw ini : String) (bm : List Value) : Prop where
  FB : ExcBaseFacts Bn nw ini bm
  SF : StoreFacts Bn bm "object.__setattr__" "object"
  KF : PySem.W.KxsFacts Bn ini
  new : PySem.W.excInitIn K C bm nw = true
  ovr : PySem.W.excOver K C bm = true
  hd : PySem.W.hasDictIn K C = true
  sa : PySem.W.findIn K (.ref C) "__setattr__" = some (some (.builtin "object.__setattr__"))
  exC : PySem.W.subIn K (.ref C) (.type "BaseException") = some true
  sub : PySem.W.subIn K (.ref C) (.type Bn) = some true
  tyC : PySem.W.typeIn K (.ref C) = some (.type "type")
  kC : PySem.W.keepIn K (.ref C) = true
  sup : PySem.W.ks_superIn K C C "__init__" = some (some (.builtin ini))
  any : PySem.W.nsIn K cStatics "thirdparty.any" = some none
section
variable {X : Cx} {pins : List (Addr × Obj)} {σ : L2.St} {H : Hp} {s : Shared} {a C dx : Addr} {f : Str} {y : V} {u : Value} {fs : List (Str × V)} {Q : Unit → Shared → Prop} {E : Value → Shared → Prop} {A : Around} {Bn nw ini : String} {bm : List Value}
/-- the first field: a dict is made -/
theorem xst_new (T : ExC X.K C Bn nw ini bm) (I : Inv X pins σ H s) (e : H a = some (exo a C none)) (hno : PySem.W.findIn X.K (.ref C) f = some none) (ry : RelV y u)
    (h : ∀ dx s', H dx = none → dx ≠ a → Inv X pins σ (upd (upd H dx (exd dx [(f, y)])) a (exo a C (some dx))) s' → Q () s') : wpAny (model X.prog X.w) A (setAttr (.ref a) f u) Q E s := by
  obtain ⟨t1, ho⟩ := exo_at I.hok e
  obtain ⟨cd, hc, hh⟩ := PySem.W.any_some T.hd
  have htk : PySem.W.takerIn X.K C f = some none := by
    unfold PySem.W.takerIn
    rw [hno]
    rfl
  obtain ⟨hp, g, d, t, os⟩ := s
  refine PySem.W.set_plain I.kIn (ox := { cls := .ref C, dict := none, data := .fields #[.ref t1, .none, .none, .none, .bool false, .none] }) (od := none) ⟨ho, rfl, rfl, trivial⟩ T.sa ?_
  refine PySem.W.osa_openX T.SF (s := ⟨hp, g, d, t + 1, os⟩) I.kIn (od := none) ⟨ho, rfl, rfl, trivial⟩ T.ovr htk fun b => ?_
  have hxs : a ≠ hp.objs.size := Nat.ne_of_lt (Heap.lt_size ho)
  refine wpAny_bind (wpAny_pure (wpAny_bind (PySem.W.instanceDict_exc (s := ⟨hp, g, d, t + 1, os⟩) ho (PySem.W.looks_clsIn I.kIn hc) hh ?_)))
  show wpAny _ _ (storeInDict hp.objs.size (.str f t) f u) _ _ _
  have hx₁ : (hp.push (PySem.W.dictOf [] 0)).get? a = some _ := Heap.get?_push_of_some _ ho
  refine PySem.HandSPX.store_in_new ?_ fun h' tk' hn hs => ?_
  · exact ⟨_, #[], _, (Heap.get?_update_ne _ _ _ _ hxs.symm).trans (Heap.get?_push_at rfl rfl), rfl, fun e he => absurd he (by simp), fun _ => rfl⟩
  have k : ∀ b o, b ≠ a → hp.get? b = some o → h'.get? b = some o := fun b o hb hbo =>
    (hs.2 b (Nat.ne_of_lt (Heap.lt_size hbo))).trans ((Heap.get?_update_ne _ _ _ _ hb).trans (Heap.get?_push_of_some _ hbo))
  have hx : h'.get? a = some { cls := .ref C, dict := some hp.objs.size, data := .fields #[.ref t1, .none, .none, .none, .bool false, .none] } := (hs.2 a hxs).trans (Heap.get?_update_self _ hx₁ rfl)
  have hnd : H hp.objs.size = none := I.hok.fresh (Nat.le_refl _)
  have nd : ∀ {b : Addr} {o : Obj}, hp.get? b = some o → b ≠ hp.objs.size := fun {b o} q => Nat.ne_of_lt (Heap.lt_size q)
  have na : ∀ {b : Addr}, H b = none → b ≠ a := fun {b} n z => by
    rw [z, e] at n
    cases n
  have Un1 : Un X.fs [] H (upd (upd H hp.objs.size (exd hp.objs.size [(f, y)])) a (exo a C (some hp.objs.size))) hp h' :=
    ⟨fun b o q n _ _ => k b o (na n) q, fun b o q n _ _ => ⟨o.slots, k b o (na n) q⟩, fun b o q n _ => by rw [upd_ne (na n), upd_ne (nd q)]; exact n,
      fun b o q _ => (Classical.em (b = a)).elim (fun hb => ⟨_, hb ▸ hx⟩) fun hb => ⟨o, k b o hb q⟩, fun b xs q => by rw [upd_ne (at_ne e q exo_tup), upd_ne (ne_of_none q hnd)]; exact q,
      fun b o v q => by rw [upd_ne (at_ne e q exo_frz), upd_ne (ne_of_none q hnd)]; exact q, fun b ps q => ⟨#[], by rw [upd_ne (at_ne e q exo_tbl), upd_ne (ne_of_none q hnd), q]; simp⟩⟩
  refine h hp.objs.size _ hnd hxs.symm (I.un (t' := tk') Un1 fun b o q => ?_)
  by_cases hb : b = a
  · subst hb
    rw [upd_same] at q
    cases q
    exact exo_ok hx
  rw [upd_ne hb] at q
  by_cases hd : b = hp.objs.size
  · subst hd
    rw [upd_same] at q
    cases q
    exact exd_ok hn (relO_put (fs := []) ry fun g => True.intro)
  rw [upd_ne hd] at q
  have own : ∀ {c x : Addr}, H c = some (.own x) → c ≠ a := fun hc => at_ne e hc exo_own
  refine (I.hok b o q).stay (fun c v hc z => k c v ?_ z) (fun c hc => ?_) fun c xs hc => ?_
  · rcases hc with hc | hc
    · rw [hc]
      exact hb
    · exact own hc
  · rw [upd_ne (own hc), upd_ne (ne_of_none hc hnd)]
    exact hc
  · rw [upd_ne (at_ne e hc exo_tup), upd_ne (ne_of_none hc hnd)]
    exact hc
/-- a further field -/
theorem xst_old (T : ExC X.K C Bn nw ini bm) (I : Inv X pins σ H s) (e : H a = some (exo a C (some dx))) (ed : H dx = some (exd dx fs)) (hl : fs.length ≤ 900) (hno : PySem.W.findIn X.K (.ref C) f = some none) (ry : RelV y u)
    (h : ∀ s', Inv X pins σ (upd H dx (exd dx ((f, y) :: fs))) s' → Q () s') : wpAny (model X.prog X.w) A (setAttr (.ref a) f u) Q E s := by
  obtain ⟨t1, ho⟩ := exo_at I.hok e
  obtain ⟨mA, hns, rel⟩ := exd_at I.hok ed
  have hw := within_of rel
  obtain ⟨cd, hc, hh⟩ := PySem.W.any_some T.hd
  have htk : PySem.W.takerIn X.K C f = some none := by
    unfold PySem.W.takerIn
    rw [hno]
    rfl
  obtain ⟨hp, g, d, t, os⟩ := s
  obtain ⟨oD, _, _, hoD, _, _⟩ := hns.count hw
  have hcls : PySem.W.Looks (model X.prog X.w) hp (classData C) cd := PySem.W.looks_clsIn I.kIn hc
  have J : PySem.W.InstAt hp a { cls := .ref C, dict := some dx, data := .fields #[.ref t1, .none, .none, .none, .bool false, .none] } C (some oD) := ⟨ho, rfl, rfl, hoD⟩
  refine PySem.W.set_plain I.kIn J T.sa ?_
  refine PySem.W.osa_openX T.SF (s := ⟨hp, g, d, t + 1, os⟩) I.kIn J T.ovr htk fun b => ?_
  refine wpAny_bind (wpAny_pure (wpAny_bind (wpAny_bind (wpAny_loadPart ho (wpAny_bind (hcls.at ?_))))))
  rw [hh]
  refine wpAny_pure (a := some dx) ?_
  refine PySem.OEX.store_in_old hns hw (by rw [List.length_map]; omega) fun h' tk' hn hs => ?_
  have hd : ∃ o, h'.get? dx = some o := by
    obtain ⟨o, _, _, e', _⟩ := hn
    exact ⟨o, e'⟩
  exact h _ (I.write (t' := tk') (x := dx) (e := dx) (o := exd dx ((f, y) :: fs)) (by rw [ed]; exact True.intro) (.inl rfl) (fun b o hb z => (hs.2 b hb).trans z) hd (exd_ok hn (relO_put ry rel)))
/-- o.f = v as a target -/
def gXf (K : PySem.W.Frag) (f : Str) (to : TE) : TG := fun v σ H Q => to σ H fun x H1 => ∃ (a C : Addr) (Bn nw ini : String) (bm : List Value), x = .ref a ∧ ExC K C Bn nw ini bm ∧ PySem.W.findIn K (.ref C) f = some none ∧
  ((H1 a = some (exo a C none) ∧ ∀ dx, H1 dx = none → dx ≠ a → Q σ (upd (upd H1 dx (exd dx [(f, v)])) a (exo a C (some dx)))) ∨
    ∃ (dx : Addr) (fs : List (Str × V)), H1 a = some (exo a C (some dx)) ∧ H1 dx = some (exd dx fs) ∧ fs.length ≤ 900 ∧ Q σ (upd H1 dx (exd dx ((f, v) :: fs))))
theorem pg_xf {o : Expr} {to : TE} {pos : Pos} (ho : PE X o to) : PG X (.Attribute o f pos) (gXf X.K f to) := by
  constructor
  intro pins s σ H v u Q I r h
  rw [assign_Attribute]
  refine wpAny_bind (wpAny_holding (thn (ho.run pins s σ H _ I h) ?_))
  rintro w1 s1 ⟨x, H1, I1, r1, a, C, Bn, nw, ini, bm, rfl, T, hno, q⟩
  obtain rfl : w1 = Value.ref a := r1
  refine wpAny_bind (wpAny_standAt (wpAny_bind (wpAny_holding ?_)))
  rcases q with ⟨ea, q⟩ | ⟨dx, fs, ea, ed, hl, q⟩
  · exact xst_new T I1 ea hno r fun dx s' n ne J => wpAny_release ⟨σ, _, J, q dx n ne⟩
  · exact xst_old T I1 ea ed hl hno r fun s' J => wpAny_release ⟨σ, _, J, q⟩
end
end Abv
set_option Elab.async false
set_option linter.all false
set_option maxRecDepth 100000
set_option maxHeartbeats 4000000
/-! ## `__init__` of an own exception -/
namespace Abv
open PySem PySem.Spec PyProof.Rows L2 NdefX Builtin Builtin.ObjectAttr
/-- the def at f: `__init__` of the exception class C, with its cell `__class__` -/
structure ExF (P : Program) (K : PySem.W.Frag) (C f : Addr) (qual : Str) (st : Stmt) : Prop where
  ex : ∃ (cda cc : Addr) (oc : Value) (od : Option Addr) (kV doc pm ct : Value) (an : Option Addr) (osl : Array (Option Value)) (ccl : Value) (cdd : Option Addr) (vs : Array Value) (ccs : Array (Option Value)) (file : Str) (tf : Tok) (cl : Value) (cld : Option Addr) (csl : Array (Option Value)),
    K.lookup f = some ⟨oc, od, .func (PySem.W.fnX "__init__" qual (defArgs st) (defBody st) (defScope st) [("__class__", cc)] .none kV doc pm an (.ref cda) ct), osl⟩ ∧ PySem.W.codeIn K (.ref cda) qual = true ∧
    K.lookup cda = some ⟨ccl, cdd, .fields vs, ccs⟩ ∧ vs[2]? = some (.str file tf) ∧ ((P.main.file : Str) == file) = true ∧ K.lookup cc = some ⟨cl, cld, .cell (some (.ref C)), csl⟩
  ini : PySem.W.findIn K (.ref C) "__init__" = some (some (.ref f))
  typ : PySem.W.typeIn K (.ref f) = some (.type "function")
  top : (P.main.scope.names.lookup ("super" : Str)).isSome = false
section
variable {prog : Program} {w : World} {A : Around} {E : Value → Shared → Prop} {h : Heap} {g : Array GenState} {d : Drawn} {t : Nat} {os : OsState} {K : PySem.W.Frag} {C u a t0 : Addr} {dv : Option Addr} {c2 : Value} {rest : List Value} {Bn nw ini : String} {bm : List Value}
/-- the bound built-in `__init__`, called -/
theorem call_mw {Q : Value → Shared → Prop} (T : ExC K C Bn nw ini bm) (X : K.In h) (hu : h.get? u = some (PySem.W.kxs_mw ini a)) (he : h.get? a = some (PySem.W.excObj C t0 dv c2)) (hz : rest.length ≤ sizeLine)
    (hq : ∀ h' t', (∀ b o, b ≠ a → h.get? b = some o → h'.get? b = some o) → h'.get? a = some (PySem.W.excObj C t' dv c2) → Q .none ⟨h', g, d, t, os⟩) :
    wpAny (model prog w) A (call (.ref u) rest) Q E ⟨h, g, d, t, os⟩ := by
  obtain ⟨nm, N', qn, bs, bm', hdct, sn, sub, ab, col, dd, k0, k1, k2, k3, k5, hC, hT⟩ := PySem.W.excInit_of X T.new
  have e1 : (Value.type "method-wrapper" == Value.type "method" || Value.type "method-wrapper" == Value.type "builtin_function_or_method" || Value.type "method-wrapper" == Value.type "method-wrapper") = true := by decide
  refine wpAny_call (codeAny_of_tree ?_)
  show wpAny _ A.in1 (callAny (.ref u) ⟨rest, []⟩) _ _ _
  unfold callAny
  refine wpAny_bind (wpAny_load hu ?_)
  simp only [PySem.W.kxs_mw, e1, if_true]
  refine PySem.W.KFB.if_so (by decide) ?_
  refine wpAny_bind (PySem.W.check_bound_init T.FB.toExcCallFacts hC he rfl ?_)
  refine wpAny_bind (wpAny_pure (wpAny_pure ?_))
  refine ⟨plainId_quiet T.FB.init.plain _, codeAny_builtin T.FB.initEntry ?_⟩
  exact PySem.W.exc_init_tree (cls := .ref C) (t0 := t0) (dv := dv) (c2 := c2) (c3 := .none) (b4 := .bool false) he hz fun h' k e' _ => hq h' _ k e'
end
/-- `__init__`: the fields nmv and told_parts -/
def sp_exI (K : PySem.W.Frag) (C : Addr) (fv nm : Str) : Sp := fun vs H Q _ => ∃ (a : Addr) (y : V), vs = [.ref a, y] ∧ H a = some (exo a C none) ∧
  ∀ H' dx t1, (∀ b o, H b = some o → b ≠ a → H' b = some o) → H dx = none → H' a = some (exo a C (some dx)) → H' dx = some (exd dx [("told_parts", .ref t1), (fv, y)]) → H' t1 = some (.tup [.str nm, y]) → Q .non H'
section
variable {P : Program} {w : World} {K : PySem.W.Frag} {mg : Str → Option Value} {base : Heap}
theorem exI_of {C f : Addr} {qual : Str} {st : Stmt} {N : List Str} {k : Nat} {sp : Sp} {Bn nw ini : String} {bm : List Value} {p0 p1 p2 p3 p4 pc : Pos} {txt : Str} {jk : Nat} {rest : List Stmt} {pl : Env → Sem Bool} {pn : Str} (T : ExC K C Bn nw ini bm) (F : ExF P K C f qual st) (S : NScope N ["self", pn] ["__class__"] (defScope st))
    (hb : defBody st = .Expr (.Call (.Attribute (.Call (.Name "super" p0) [] [] p1) "__init__" p2) [.Constant (.str txt) jk pc] [] p3) p4 :: rest) (hks : (defScope st).names.lookup ("super" : Str) = some .globalImplicit) (bsup : mg "super" = none)
    (hev : ∀ env : Env, eval (.Call (.Attribute (.Call (.Name "super" p0) [] [] p1) "__init__" p2) [.Constant (.str txt) jk pc] [] p3) env = (do
      let ov ← attributeBase (.Call (.Name "super" p0) [] [] p1) "__init__" env (eval (.Call (.Name "super" p0) [] [] p1) env)
      standAt p2.atName
      let (f, first) ← holding [ov] (getMethod ov "__init__" (pl env))
      callWith p3 f first (backTo p3 (starEach [.Constant (.str txt) jk pc] env)) []))
    (hsw : ∀ env : Env, swapsWith (.Call (.Attribute (.Call (.Name "super" p0) [] [] p1) "__init__" p2) [.Constant (.str txt) jk pc] [] p3) none p4.line env = pure false)
    (hbind : ∀ (cc cda : Addr) (kV doc pm ct : Value) (an : Option Addr) (us : List Value), us.length = 2 → bindArgs (PySem.W.fnX "__init__" qual (defArgs st) (defBody st) (defScope st) [("__class__", cc)] .none kV doc pm an (.ref cda) ct) ⟨us, []⟩ = pure ((["self", pn] : List Str).zip us))
    (hpn : (["self", pn] : List Str).Nodup) (har : ∃ ar : Arg, ((defArgs st).posonlyargs ++ (defArgs st).args).head? = some ar ∧ ar.arg = ("self" : Str))
    (hsp : ∀ vs H Q E, sp vs H Q E → ∃ a y, vs = [.ref a, y] ∧ H a = some (exo a C none))
    (hbody : ∀ (G : NF) (A : Around) (outer : List Env) (s : Shared) (H : Hp) (vs : List V) (Q : VK) (E : XK), G.scope = defScope st → G.body = defBody st → sp vs H Q E →
      ∃ t, PSs (ncx CX0 P w K mg base N G f A outer s H E) rest t ∧ t { nx := fun _ H' => Q .non H', rt := Q } (startF N vs [some (.ref C)]) H) :
    FnR P w K mg base CX0 (k + 1) f sp := by
  intro A outer s H us vs Q E hr e0 r hs
  obtain ⟨a, y, rfl, ha⟩ := hsp _ _ _ _ hs
  obtain ⟨cda, cc, oc, od, kV, doc, pm, ct, an, osl, ccl, cdd, fvs, ccs, file, tf, cl, cld, csl, lk, hcd, lcda, hvs, hfile, lcc⟩ := F.ex
  obtain ⟨ar, har1, har2⟩ := har
  have KX : K.In s.heap := e0.mod.kin.keeps fun b o e => (e0.bs b o e).1
  have lim : s.heap.NoLimit := e0.mod.nolimit.keeps fun b o e => (e0.bs b o e).1
  have hl : us.length = 2 := r.length.symm
  have hcc : H cc = none := (e0.bs cc _ (e0.mod.kin _ _ lcc)).2
  let G : NF := ⟨"__init__", qual, defArgs st, defBody st, defScope st, [("__class__", cc)], cda⟩
  have CA : CellsAt G.cl ["__class__"] [some (.ref C)] s.heap H := by
    have one : ∀ (x : Str) (c : Addr), ([("__class__", cc)] : List (Str × Addr)).lookup x = some c → x = "__class__" ∧ c = cc := by
      intro x c e
      rw [List.lookup_cons] at e
      split at e
      · rename_i h
        exact ⟨by simpa using h, by simpa using e.symm⟩
      · cases e
    refine ⟨rfl, fun x c e => ?_, fun x y' c e1 e2 => (one x c e1).1.trans (one y' c e2).1.symm, fun i x e => ?_⟩
    · obtain ⟨rfl, rfl⟩ := one x c e
      exact ⟨hcc, _, _, KX _ _ lcc, rfl⟩
    · match i, e with
      | 0, e =>
        have e : "__class__" = x := by simpa using e
        subst e
        refine ⟨cc, rfl, fun v hv => ⟨.ref C, ?_, _, KX _ _ lcc, rfl⟩⟩
        have hv : V.ref C = v := by simpa using hv
        subst hv
        rfl
      | i + 1, e => simp at e
  refine ks_codeAny_call_defAt (fd := PySem.W.fnX "__init__" qual (defArgs st) (defBody st) (defScope st) [("__class__", cc)] .none kV doc pm an (.ref cda) ct) (body := defBody st) (binds := (["self", pn] : List Str).zip us) hr.depth (KX _ _ lk) rfl lim
    (PySem.W.codeRec_of KX hcd) rfl (.of_eq (hbind cc cda kV doc pm ct an us hl)) S.nocell (fun x hx => S.par x.1 (List.of_mem_zip hx).1) (fun h₁ hns kp => ?_) S.co S.gen S.kind
  have I : Inv (ncx CX0 P w K mg base N G f A outer s H E) [] (startF N [.ref a, y] [some (.ref C)]) H { s with heap := h₁, toks := s.toks + ((["self", pn] : List Str).zip us).length } := inv_startN S hr.hd e0 rfl r CA hns kp
  have hkey : ∀ x : Str, (envF G f s.heap.objs.size).kindOf x = (defScope st).names.lookup x := fun _ => rfl
  show PySem.wpAt _ (A.deeper (envF G f s.heap.objs.size)) (.func (defBody st) (envF G f s.heap.objs.size)) (execs (defBody st) (envF G f s.heap.objs.size)) _ _ _
  obtain ⟨cd, hcl, _⟩ := PySem.W.any_some T.hd
  have hsub : PySem.W.mroIn K C (.ref C) = some true := by
    obtain ⟨cd', hc', ho⟩ := PySem.W.any_some T.ovr
    unfold PySem.W.mroIn
    rw [hc', Option.bind_some]
    split at ho
    · rename_i C' bm' hm
      rw [Bool.and_eq_true, beq_iff_eq] at ho
      rw [hm, ho.1]
      simp
    · cases ho
  -- what is to hold behind the first statement
  have fin : ∀ s', Inv (ncx CX0 P w K mg base N G f A outer s H E) [] (startF N [.ref a, y] [some (.ref C)]) H s' →
      wpAny (model P w) (A.deeper (envF G f s.heap.objs.size)) (execs rest (envF G f s.heap.objs.size)) (fun fl s' => CR CX0 outer P w H s Q E (.ok (.ret (match fl with | .ret v => v | _ => .none))) s')
        (fun e s' => wpAny (model P w) (A.deeper (envF G f s.heap.objs.size)) (leaving (envF G f s.heap.objs.size) e) (fun _ s'' => CR CX0 outer P w H s Q E (.error e) s'') (fun e' s'' => CR CX0 outer P w H s Q E (.error e') s'') s') s' := by
    intro s' J
    obtain ⟨t, ht, hq⟩ := hbody G A outer s H _ Q E rfl rfl hs
    have out : ∀ {σ' : L2.St} {H' : Hp} {v : V} {u : Value} {s2 : Shared}, Inv (ncx CX0 P w K mg base N G f A outer s H E) [] σ' H' s2 → RelV v u → Q v H' → CE outer P w H s Q u s2 := fun {σ' H' v u s2} J2 rv q => ⟨v, H', J2.os, J2.bare, J2.base, J2.hok, rv, q⟩
    refine wpAny_mono (ht.run [] s' _ H _ J hq) (fun fl s2 h2 => ?_) fun e s2 h2 => h2
    cases fl with
    | ret u =>
      obtain ⟨v, σ2, H2, J2, rv, q⟩ := h2
      exact out J2 rv q
    | next =>
      obtain ⟨σ2, H2, J2, q⟩ := h2
      exact out (v := .non) (u := .none) J2 rfl q
    | brk =>
      obtain ⟨_, _, _, q⟩ := h2
      exact q.elim
    | cont =>
      obtain ⟨_, _, _, q⟩ := h2
      exact q.elim
  generalize hbd : defBody st = body at *
  rw [hb]
  refine ks_wpAt_execs_cons (ks_wpAt_Expr_any (ks_wpAt_MethodCall (ks_wpAt_super_base (f := f) (cc := cda) (ar := ar) (tf := tf) (by rw [hkey]; exact hks) (by rw [hkey]; exact S.frk _ (List.mem_singleton_self _)) (by decide) rfl (I.kIn _ _ lk) rfl har1 rfl (I.kIn _ _ lcda) rfl hvs hfile F.top ?_) (hev _)) I.quiet (hsw _))
  obtain ⟨mb, b1, b2⟩ := I.mod.blt
  refine PySem.W.ks_loadName_global S.kind (by rw [hkey]; exact hks) (Calls.loadGlobal_builtin (I.mod.glob.keeps I.bk) bsup (b1.keeps I.bk) ((b2 _ (by decide)).trans (show bootBuiltins "super" = some (.type "super") by decide +kernel)) ⟨rfl, ?_⟩)
  refine wpAny_loadName_free S.kind (by rw [hkey]; exact S.frk _ (List.mem_singleton_self _)) rfl ⟨_, I.kIn _ _ lcc, rfl⟩ ?_
  have hself : (defScope st).names.lookup ar.arg = some .local := by
    rw [har2]
    exact S.par _ (List.mem_cons_self ..)
  obtain ⟨u0, us', rfl, ru0, rr0⟩ : ∃ u us', us = u :: us' ∧ RelV (.ref a) u ∧ Vals [y] us' := by cases r with | cons h t => exact ⟨_, _, rfl, h, t⟩
  obtain rfl : u0 = Value.ref a := ru0
  obtain ⟨u1, us2, rfl, ru1, rr1⟩ : ∃ u us2, us' = u :: us2 ∧ RelV y u ∧ Vals [] us2 := by cases rr0 with | cons h t => exact ⟨_, _, rfl, h, t⟩
  cases rr1
  refine wpAny_loadName_local S.kind (by rw [hkey]; exact hself) hns (v := .ref a) (by rw [har2]; exact zip_look (i := 0) hpn rfl rfl) ?_
  obtain ⟨oC, hC1, hC2⟩ : ∃ oD, h₁.get? C = some oD ∧ oD.data = .cls cd := by
    unfold PySem.W.clsIn at hcl
    split at hcl
    · rename_i c d cd' sl ho
      cases hcl
      exact ⟨_, I.kIn _ _ ho, rfl⟩
    · cases hcl
  obtain ⟨t1, hx⟩ := exo_at I.hok ha
  have hx : h₁.get? a = _ := hx
  refine PySem.ks_wpAny_isType_cls hC1 hC2 ⟨rfl, ?_⟩
  refine PySem.ks_wpAny_call_super hC1 hC2 hx rfl (fun c e => by cases e) (PySem.W.looks_mroIn I.kIn hsub) (fun h2 so k2 => ?_)
  have I2 := I.kept (h' := h2) (t' := s.toks + ((["self", pn] : List Str).zip [Value.ref a, u1]).length) k2
  have hx2 := k2 _ _ hx
  have hI2 : PySem.W.InstAt h2 a (PySem.W.excObj C t1 none .none) C none := ⟨hx2, rfl, rfl, trivial⟩
  have hsup := T.sup
  unfold PySem.W.ks_superIn at hsup
  rw [hcl, Option.bind_some] at hsup
  refine PySem.W.kxs_getMethod T.KF so (PySem.W.looks_opaque I2.kIn T.any) (l₀ := cd.mro) (fun A Q E s k q => wpAny_bind ((PySem.W.looks_clsIn I2.kIn hcl) A _ E s k (wpAny_pure q))) rfl I2.kIn hsup (hI2.type.andThen (PySem.W.looks_subIn I2.kIn T.sub)) (PySem.W.ks_ne I2.kIn hI2 hcl) (by decide) ?_
  have hu : (h2.push (PySem.W.kxs_mw ini a)).get? h2.objs.size = some (PySem.W.kxs_mw ini a) := Heap.get?_push_at rfl rfl
  have k3 : ∀ b o, h2.get? b = some o → (h2.push (PySem.W.kxs_mw ini a)).get? b = some o := fun b o e => Heap.get?_push_of_some _ e
  have hx3 := k3 _ _ hx2
  have I3 := I2.kept (h' := h2.push (PySem.W.kxs_mw ini a)) (t' := s.toks + ((["self", pn] : List Str).zip [Value.ref a, u1]).length + 2) k3
  have hst : starEach [.Constant (.str txt) jk pc] (envF G f s.heap.objs.size) = [(false, eval (.Constant (.str txt) jk pc) (envF G f s.heap.objs.size))] := rfl
  rw [hst]
  refine PySem.W.kxs_callWith (i := ini) (x := a) rfl (PySem.Calls.evalArgs_plain (Calls.spliced_cons (Calls.Constant_str (pos := pc) (k := jk) (Calls.spliced_nil ⟨hu, ?_⟩))))
  refine call_mw T I3.kIn hu hx3 (by rw [sizeLine_eq]; exact Nat.le_of_ble_eq_true rfl) (fun h4 t4 k4 e4 => ?_)
  have J := I3.write (t' := s.toks + ((["self", pn] : List Str).zip [Value.ref a, u1]).length + 2) (x := a) (e := a) (o := exo a C none) (by rw [ha]; exact True.intro) (.inl rfl) k4 ⟨_, e4⟩ (exo_ok e4)
  have eu : upd H a (exo a C none) = H := by
    funext b
    by_cases hb : b = a
    · rw [hb, upd_same, ha]
    · rw [upd_ne hb]
  rw [eu] at J
  exact wpAt_of_wpAny (fin _ J)
end
end Abv
set_option Elab.async false
set_option linter.all false
set_option maxRecDepth 100000
set_option maxHeartbeats 4000000
/-! ## Making an own exception -/
namespace Abv
open PySem PySem.Spec PyProof.Rows L2 NdefX
/-- the two fields, behind the call of super().__init__ -/
def tXbody (K : PySem.W.Frag) (fv : Str) (nm : Str) : TS := tAsg (tTup (tCons (tVar 1) (tCons (tTup (tCons (tC (.str nm)) (tCons (tVar 1) tNil))) tNil))) (gTup K 2 (gCons (gXf K fv (tVar 0)) (gCons (gXf K "told_parts" (tVar 0)) gNil)))
theorem xbody_ok {K : PySem.W.Frag} {C a : Addr} {fv nm : Str} {y : V} {ws : List (Option V)} {H : Hp} {Q : VK} {D : Ends} {Bn nw ini : String} {bm : List Value} (T : ExC K C Bn nw ini bm) (n1 : PySem.W.findIn K (.ref C) fv = some none) (n2 : PySem.W.findIn K (.ref C) "told_parts" = some none)
    (ha : H a = some (exo a C none)) (hD : D.nx = fun _ H' => Q .non H')
    (k : ∀ H' dx t1, (∀ b o, H b = some o → b ≠ a → H' b = some o) → H dx = none → H' a = some (exo a C (some dx)) → H' dx = some (exd dx [("told_parts", .ref t1), (fv, y)]) → H' t1 = some (.tup [.str nm, y]) → Q .non H') :
    tXbody K fv nm D (some (.ref a) :: some y :: ws) H := by
  refine ⟨y, rfl, y, rfl, by rw [sizeLine_eq]; exact Nat.le_of_ble_eq_true rfl, fun t1 nt1 => ⟨by rw [sizeLine_eq]; exact Nat.le_of_ble_eq_true rfl, fun t2 nt2 => ?_⟩⟩
  have e1 := Same.new (u := .tup [.str nm, y]) nt1
  have e2 := e1.trans (Same.new (u := .tup [y, .ref t1]) nt2)
  have h1 : upd (upd H t1 (.tup [.str nm, y])) t2 (.tup [y, .ref t1]) t1 = some (.tup [.str nm, y]) := Same.new nt2 _ _ upd_same
  have h2 : upd (upd H t1 (.tup [.str nm, y])) t2 (.tup [y, .ref t1]) t2 = some (.tup [y, .ref t1]) := upd_same
  generalize upd (upd H t1 (.tup [.str nm, y])) t2 (.tup [y, .ref t1]) = H1 at e2 h1 h2
  have ha1 := e2 _ _ ha
  refine ⟨t2, _, rfl, .inl (.inl h2), rfl, _, _, rfl, _, rfl, a, C, Bn, nw, ini, bm, rfl, T, n1, .inl ⟨ha1, fun dx ndx hne => ?_⟩⟩
  refine ⟨_, _, rfl, _, rfl, a, C, Bn, nw, ini, bm, rfl, T, n2, .inr ⟨dx, _, upd_same, by rw [upd_ne hne, upd_same], Nat.le_of_ble_eq_true rfl, rfl, ?_⟩⟩
  rw [hD]
  have nH : H dx = none := e2.free ndx
  have na : a ≠ dx := Ne.symm hne
  have nt : t1 ≠ dx := ne_of_none h1 ndx
  have nta : t1 ≠ a := by
    rintro rfl
    rw [ha] at nt1
    cases nt1
  refine k _ dx t1 (fun b o hb hba => ?_) nH ?_ upd_same ?_
  · rw [upd_ne (ne_of_none hb nH), upd_ne hba, upd_ne (ne_of_none hb nH)]
    exact e2 _ _ hb
  · rw [upd_ne na, upd_same]
  · rw [upd_ne nt, upd_ne nta, upd_ne nt]
    exact h1
/-- C(e): what is raised -/
def tMkX (C : Addr) (fv nm : Str) (t : TA) : L2.St → Hp → XK → Prop := fun σ H Q => t σ H fun vs H1 => ∃ y, vs = [y] ∧ ∀ H3 d t1, Same H1 H3 → H3 d = some (.xd [("told_parts", .ref t1), (fv, y)]) → H3 t1 = some (.tup [.str nm, y]) → Q (.ref C) (some d) H3
theorem pmk_x {X : Cx} {x : Str} {C fI : Addr} {k : Nat} {fv nm : Str} {e : Expr} {t : TA} {p pos : Pos} {Bn nw ini : String} {bm : List Value} (T : ExC X.K C Bn nw ini bm) (iC : PySem.W.findIn X.K (.ref C) "__init__" = some (some (.ref fI))) (tI : PySem.W.typeIn X.K (.ref fI) = some (.type "function"))
    (F1 : FnR X.prog X.w X.K X.mg X.base CX0 k fI (sp_exI X.K C fv nm)) (hr : Room (k + 1) X.A) (hg : Gl X x) (hm : X.mg x = some (.ref C)) (ha : PA X [e] t)
    (hdb : (x == ("__debug__" : Str)) = false := by decide) (hst : starEach [e] X.env = [(false, eval e X.env)] := by rfl) :
    PMk X (.Call (.Name x p) [e] [] pos) (tMkX C fv nm t) := by
  intro pins s σ H Q I h
  refine wpAny_Call_Name_kw (ld_glob I hg hm ?_ hdb)
  refine PySem.W.callWith_K (h₀ := X.base) I.ok.mod.kin T.kC ?_ hst rfl
  refine thn (ha.run pos pins s σ H _ I h) ?_
  rintro us s1 ⟨vs, H1, I1, r1, y, rfl, q1⟩
  refine ⟨I1.kIn, ?_⟩
  obtain ⟨nm', N', qn, bs, bm', hdct, sn, sub, ab, col, dd, k0, k1, k2, k3, k5, hC, hT⟩ := PySem.W.excInit_of I1.kIn T.new
  show wpAny _ _ (call (.ref C) us) _ _ _
  obtain ⟨hp, g, dr, tk, os⟩ := s1
  have hsz : hp.objs.size ≤ hp.objs.size + 1 := Nat.le_succ _
  have hn : H1 (hp.objs.size + 1) = none := I1.hok.fresh hsz
  have kk : ∀ b o, hp.get? b = some o → ((hp.push (PySem.W.kdv_tup us)).push (PySem.HandSPX.excO C hp.objs.size)).get? b = some o := fun b o e => Heap.get?_push_of_some _ (Heap.get?_push_of_some _ e)
  have hget : ((hp.push (PySem.W.kdv_tup us)).push (PySem.HandSPX.excO C hp.objs.size)).get? (hp.objs.size + 1) = some (PySem.HandSPX.excO C hp.objs.size) := by heap_get
  have I2 : Inv X pins σ (upd H1 (hp.objs.size + 1) (exo (hp.objs.size + 1) C none)) ⟨(hp.push (PySem.W.kdv_tup us)).push (PySem.HandSPX.excO C hp.objs.size), g, dr, tk, os⟩ :=
    I1.laid (t' := tk) (a := hp.objs.size + 1) (o := exo (hp.objs.size + 1) C none) (h' := (hp.push (PySem.W.kdv_tup us)).push (PySem.HandSPX.excO C hp.objs.size)) kk hsz (exo_ok hget)
  have hus : us.length ≤ sizeLine := by
    rw [← Paired.length r1, sizeLine_eq]
    exact Nat.le_of_ble_eq_true rfl
  -- what `__init__` keeps
  let Q2 : VK := fun v H2 => v = .non ∧ ∃ d fs, H2 (hp.objs.size + 1) = some (exo (hp.objs.size + 1) C (some d)) ∧ H2 d = some (exd d fs) ∧ H1 d = none ∧ Q (.ref C) (some d) (upd (del H2 (hp.objs.size + 1)) d (.xd fs))
  have hq : sp_exI X.K C fv nm [.ref (hp.objs.size + 1), y] (upd H1 (hp.objs.size + 1) (exo (hp.objs.size + 1) C none)) Q2 E0 := by
    refine ⟨_, y, rfl, upd_same, fun H' dx t1 h1 h2 h3 h4 h5 => ⟨rfl, dx, _, h3, h4, ?_, ?_⟩⟩
    · by_cases hb : dx = hp.objs.size + 1
      · rw [hb, upd_same] at h2
        cases h2
      · rw [upd_ne hb] at h2
        exact h2
    · have hdx : H1 dx = none := by
        by_cases hb : dx = hp.objs.size + 1
        · rw [hb, upd_same] at h2
          cases h2
        · rw [upd_ne hb] at h2
          exact h2
      have ht1 : t1 ≠ dx := fun z => by
        rw [z, h4] at h5
        exact exd_tup (Option.some.inj h5)
      have ht2 : t1 ≠ hp.objs.size + 1 := fun z => by
        rw [z, h3] at h5
        exact exo_tup (Option.some.inj h5)
      refine q1 _ dx t1 (fun b o hb => ?_) upd_same ?_
      · rw [upd_ne (ne_of_none hb hdx), del_ne (ne_of_none hb hn)]
        exact h1 b o (by rw [upd_ne (ne_of_none hb hn)]; exact hb) (ne_of_none hb hn)
      · rw [upd_ne ht1, del_ne ht2]
        exact h5
  refine wpAny_call (PySem.HandSPX.call_own T.FB hT hC (PySem.W.looks_findIn I1.kIn iC) (fun self => PySem.W.bind_fn I1.kIn self tI) hus
    (codeAny_mono (F1 _ X.stack _ _ (Value.ref (hp.objs.size + 1) :: us) [V.ref (hp.objs.size + 1), y] Q2 E0 (hr.make C us []) (I2.env0.make C us []) (.cons rfl r1) hq) fun r s' hq' => ?_))
  cases r with
  | error er => exact False.elim hq'
  | ok fl =>
    cases fl with
    | ret u =>
      obtain ⟨v, H2, os2, bare2, un2, hok2, rv, ev, d, fs, ea, ed, hd1, q2⟩ := hq'
      subst ev
      obtain ⟨h2, g2, d2, t2, os'⟩ := s'
      exact ⟨rv, mk_end (raises_own T.exC T.tyC) I1 hsz kk un2 hok2 os2 bare2 ea ed hd1 q2⟩
    | next => exact False.elim hq'
    | brk => exact False.elim hq'
    | cont => exact False.elim hq'
end Abv
set_option Elab.async false
set_option linter.all false
set_option maxRecDepth 100000
set_option maxHeartbeats 4000000
/-! ## The three exceptions; want_label, want_entry -/
namespace Abv
open PySem PySem.Spec PyProof.Rows L2 NdefX
/-- the facts of an exception class -/
structure XcF (P : Program) (K : PySem.W.Frag) (nm fv qual : Str) (st : Stmt) (Bn nw ini : String) (bm : List Value) : Prop where
  T : ExC K (He.ga K nm) Bn nw ini bm
  F : ExF P K (He.ga K nm) (He.ma K (He.ga K nm) "__init__") qual st
  n1 : PySem.W.findIn K (.ref (He.ga K nm)) fv = some none
  n2 : PySem.W.findIn K (.ref (He.ga K nm)) "told_parts" = some none
abbrev bmV : List Value := [.type "ValueError", .type "Exception", .type "BaseException", .type "object"]
abbrev bmL : List Value := [.type "LookupError", .type "Exception", .type "BaseException", .type "object"]
abbrev stIL : Stmt := inClass (top 4) 0
abbrev stIK : Stmt := inClass (top 6) 0
abbrev stNE : Stmt := inClass (top 8) 0
structure Xs (P : Program) (K : PySem.W.Frag) : Prop where
  IL : XcF P K "InvalidLabel" "value" "InvalidLabel.__init__" stIL "ValueError" "ValueError.__new__" "ValueError.__init__" bmV
  IK : XcF P K "InvalidKey" "value" "InvalidKey.__init__" stIK "ValueError" "ValueError.__new__" "ValueError.__init__" bmV
  NE : XcF P K "NoEntry" "key" "NoEntry.__init__" stNE "LookupError" "LookupError.__new__" "LookupError.__init__" bmL
section
variable {P : Program} {w : World} {K : PySem.W.Frag} {mg : Str → Option Value} {base : Heap}
theorem ok_exIL (T : Tx K mg) (Z : Xs P K) : FnR P w K mg base CX0 1 (He.ma K (He.ga K "InvalidLabel") "__init__") (sp_exI K (He.ga K "InvalidLabel") "value" "InvalidLabel") := by
  refine exI_of (N := ["self", "value", "__class__"]) (rest := (defBody stIL).drop 1) (pn := "value") Z.IL.T Z.IL.F (nscope_by (by decide +kernel)) rfl rfl T.b_super (fun _ => rfl) (fun _ => rfl) (fun _ _ _ _ _ _ _ us hl => match us, hl with | [_, _], _ => rfl) (by decide) ⟨_, rfl, rfl⟩ (fun vs H Q E h => ?_) (fun G A outer s H vs Q E g1 g2 h => ?_)
  · obtain ⟨a, y, rfl, ha, _⟩ := h
    exact ⟨a, y, rfl, ha⟩
  obtain ⟨a, y, rfl, ha, k⟩ := h
  obtain ⟨y1, y2, y3, y4, y5, y6, y7⟩ := G
  obtain rfl : y5 = defScope stIL := g1
  exact ⟨tXbody K "value" "InvalidLabel", pss_one (ps_asg (pe_tup (pa_cons (pv 1) (pa_cons (pe_tup (pa_cons pe_str (pa_cons (pv 1) pa_nil))) pa_nil))) (pg_tup rfl (pgs_cons (pg_xf (pv 0)) (pgs_cons (pg_xf (pv 0)) pgs_nil)))), xbody_ok Z.IL.T Z.IL.n1 Z.IL.n2 ha rfl k⟩
theorem ok_exIK (T : Tx K mg) (Z : Xs P K) : FnR P w K mg base CX0 1 (He.ma K (He.ga K "InvalidKey") "__init__") (sp_exI K (He.ga K "InvalidKey") "value" "InvalidKey") := by
  refine exI_of (N := ["self", "value", "__class__"]) (rest := (defBody stIK).drop 1) (pn := "value") Z.IK.T Z.IK.F (nscope_by (by decide +kernel)) rfl rfl T.b_super (fun _ => rfl) (fun _ => rfl) (fun _ _ _ _ _ _ _ us hl => match us, hl with | [_, _], _ => rfl) (by decide) ⟨_, rfl, rfl⟩ (fun vs H Q E h => ?_) (fun G A outer s H vs Q E g1 g2 h => ?_)
  · obtain ⟨a, y, rfl, ha, _⟩ := h
    exact ⟨a, y, rfl, ha⟩
  obtain ⟨a, y, rfl, ha, k⟩ := h
  obtain ⟨y1, y2, y3, y4, y5, y6, y7⟩ := G
  obtain rfl : y5 = defScope stIK := g1
  exact ⟨tXbody K "value" "InvalidKey", pss_one (ps_asg (pe_tup (pa_cons (pv 1) (pa_cons (pe_tup (pa_cons pe_str (pa_cons (pv 1) pa_nil))) pa_nil))) (pg_tup rfl (pgs_cons (pg_xf (pv 0)) (pgs_cons (pg_xf (pv 0)) pgs_nil)))), xbody_ok Z.IK.T Z.IK.n1 Z.IK.n2 ha rfl k⟩
theorem ok_exNE (T : Tx K mg) (Z : Xs P K) : FnR P w K mg base CX0 1 (He.ma K (He.ga K "NoEntry") "__init__") (sp_exI K (He.ga K "NoEntry") "key" "NoEntry") := by
  refine exI_of (N := ["self", "key", "__class__"]) (rest := (defBody stNE).drop 1) (pn := "key") Z.NE.T Z.NE.F (nscope_by (by decide +kernel)) rfl rfl T.b_super (fun _ => rfl) (fun _ => rfl) (fun _ _ _ _ _ _ _ us hl => match us, hl with | [_, _], _ => rfl) (by decide) ⟨_, rfl, rfl⟩ (fun vs H Q E h => ?_) (fun G A outer s H vs Q E g1 g2 h => ?_)
  · obtain ⟨a, y, rfl, ha, _⟩ := h
    exact ⟨a, y, rfl, ha⟩
  obtain ⟨a, y, rfl, ha, k⟩ := h
  obtain ⟨y1, y2, y3, y4, y5, y6, y7⟩ := G
  obtain rfl : y5 = defScope stNE := g1
  exact ⟨tXbody K "key" "NoEntry", pss_one (ps_asg (pe_tup (pa_cons (pv 1) (pa_cons (pe_tup (pa_cons pe_str (pa_cons (pv 1) pa_nil))) pa_nil))) (pg_tup rfl (pgs_cons (pg_xf (pv 0)) (pgs_cons (pg_xf (pv 0)) pgs_nil)))), xbody_ok Z.NE.T Z.NE.n1 Z.NE.n2 ha rfl k⟩
/-- what is raised, and told -/
def RErr (K : PySem.W.Frag) (H : Hp) (nm : Str) (d : Dt) : XK := fun cls dx H' => ∃ (fv : Str) (dd t1 : Addr) (v : V), cls = .ref (He.ga K nm) ∧ dx = some dd ∧ H' dd = some (.xd [("told_parts", .ref t1), (fv, v)]) ∧ H' t1 = some (.tup [.str nm, v]) ∧ Rp K (CL K) H' d v ∧ Same H H'
theorem RErr.of {H H1 H' : Hp} {nm : Str} {d : Dt} {cls : Value} {dx : Option Addr} (e : Same H H1) (h : RErr K H1 nm d cls dx H') : RErr K H nm d cls dx H' := by
  obtain ⟨fv, dd, t1, v, h1, h2, h3, h4, h5, h6⟩ := h
  exact ⟨fv, dd, t1, v, h1, h2, h3, h4, h5, e.trans h6⟩
def isLab : Dt → Bool
  | .lab _ => true
  | _ => false
/-- what stands for a label -/
def lblArg : Dt → Bool
  | .lab _ => true
  | .non => true
  | .int _ => true
  | .str s => decide (s.length ≤ 1000)
  | _ => false
theorem kitL {C : Addr} (Y : Ty K) {H : Hp} {d : Dt} {v : V} (h : Rp K (CL K) H d v) (a : lblArg d = true) : ∃ t, TyX K H v t ∧ PySem.W.kitOne K t (.ref (CL K)) = some (isLab d) := by
  cases d with
  | lab ms =>
    unfold Rp at h
    obtain ⟨a, dx, t, rfl, h2, h3⟩ := h
    exact ⟨_, .base (.ins h2 Y.cL Y.isL.ha Y.isL.hn Y.isL.ht Y.isL.hm), Y.isL.me⟩
  | non => exact ⟨_, tyD h rfl, Y.isL.no _ (by simp [tyN])⟩
  | int i => exact ⟨_, tyD h rfl, Y.isL.no _ (by simp [tyN])⟩
  | str s => exact ⟨_, tyD h a, Y.isL.no _ (by simp [tyN])⟩
  | bl b => cases a
  | lst ds => cases a
  | tup ds => cases a
/-- a question that may be refused -/
def spErr (K : PySem.W.Frag) (n : Nat) (A : List Dt → Prop) (e : List Dt → Option (Str × Dt)) : Sp := fun vs H Q E => ∃ ds, RpA K (CL K) H ds vs ∧ ds.length = n ∧ A ds ∧
  match e ds with
  | none => ∀ H', Same H H' → Q .non H'
  | some (nm, d) => ∀ cls dx H', RErr K H nm d cls dx H' → E cls dx H'
def lblErr (d : Dt) : Option (Str × Dt) := if isLab d = true then none else some ("InvalidLabel", d)
def spWantL (K : PySem.W.Frag) : Sp := fun vs H Q E => ∃ d v, vs = [v] ∧ Rp K (CL K) H d v ∧ lblArg d = true ∧
  (isLab d = true → ∀ H', Same H H' → Q .non H') ∧ (isLab d = false → ∀ cls dx H', RErr K H "InvalidLabel" d cls dx H' → E cls dx H')
abbrev s_want_label : Stmt := top 34
abbrev n_want_label : List Str := ["value"]
theorem sc_want_label : FnScope n_want_label ["value"] (defScope s_want_label) := ⟨rfl, rfl, rfl, by decide +kernel, rfl, by decide +kernel, by decide +kernel⟩
theorem ok_want_label (T : Tx K mg) (Y : Ty K) (Z : Xs P K) : Cl (L2.CX P w) P w K mg base 3 "want_label" (spWantL K) := by
  have XI : FnR P w K mg base CX0 1 (He.ma K (He.ga K "InvalidLabel") "__init__") (sp_exI K (He.ga K "InvalidLabel") "value" "InvalidLabel") := ok_exIL T Z
  refine clX T.f_want_label sc_want_label (fun _ _ _ _ _ _ us hl => match us, hl with | [_], _ => rfl) (fun vs H Q E h => ?_) (fun f cdv A outer s H vs Q E hr h => ?_)
  · obtain ⟨d, v, rfl, _⟩ := h
    rfl
  obtain ⟨d, v, rfl, hv, ha, k1, k2⟩ := h
  refine ⟨_, (pss_one (ps_if (pt_not (pt_val (pe_callB (id := "isinstance") (isiK (K := K)) (by rfl) T.b_isinstance (by decide +kernel) (pa_cons (pv 0) (pa_cons (pe_glob (v := .ref (He.ga K "Label")) rfl T.g_Label rfl) pa_nil))))) (pss_one (ps_raise rfl (takes_of rfl rfl rfl rfl) (pmk_x Z.IL.T Z.IL.F.ini Z.IL.F.typ XI hr rfl T.g_InvalidLabel (pa_cons (pv 0) pa_nil)))) pss_nil)), ?_⟩
  obtain ⟨t, ht, hk⟩ := kitL (C := 0) Y hv ha
  refine ⟨_, rfl, _, _, _, _, _, rfl, .own _, ht, hk, _, rfl, ?_⟩
  cases hb : isLab d with
  | true => exact iteF (k1 hb H (Same.refl H))
  | false =>
    refine iteT ⟨_, rfl, _, rfl, fun H3 dd t1 e3 h1 h2 => k2 hb _ _ _ ⟨"value", dd, t1, v, rfl, rfl, h1, h2, Rp.same e3 d v hv, e3⟩⟩
def entErr (dl dv dk : Dt) : Option (Str × Dt) := if isLab dl = false then some ("InvalidLabel", dl) else if isAny dv = false then some ("InvalidKey", dv) else if isKey dk = false then some ("InvalidKey", dk) else none
/-- how a question ends: E0 the error, or Qn -/
def OrErr (K : PySem.W.Frag) (H : Hp) (er : Option (Str × Dt)) (E : XK) (Qn : Prop) : Prop := match er with
  | none => Qn
  | some (nm, d) => ∀ cls dx H', RErr K H nm d cls dx H' → E cls dx H'
def spWantE (K : PySem.W.Frag) : Sp := fun vs H Q E => ∃ dl dv dk vl vv vk, vs = [vl, vv, vk] ∧ Rp K (CL K) H dl vl ∧ Rp K (CL K) H dv vv ∧ Rp K (CL K) H dk vk ∧ lblArg dl = true ∧ pln dv = true ∧ pln dk = true ∧
  OrErr K H (entErr dl dv dk) E (∀ H', Same H H' → Q .non H')
abbrev s_want_entry : Stmt := top 39
abbrev n_want_entry : List Str := ["label", "value", "key"]
theorem sc_want_entry : FnScope n_want_entry ["label", "value", "key"] (defScope s_want_entry) := ⟨rfl, rfl, rfl, by decide +kernel, rfl, by decide +kernel, by decide +kernel⟩
theorem ok_want_entry (T : Tx K mg) (Y : Ty K) (Z : Xs P K) : Cl (L2.CX P w) P w K mg base 4 "want_entry" (spWantE K) := by
  have XI : FnR P w K mg base CX0 1 (He.ma K (He.ga K "InvalidKey") "__init__") (sp_exI K (He.ga K "InvalidKey") "value" "InvalidKey") := ok_exIK T Z
  have C_want_label : Cl (L2.CX P w) P w K mg base 3 "want_label" (spWantL K) := ok_want_label T Y Z
  have C_is_any_value : Cl CX0 P w K mg base 3 "is_any_value" (spB K isAny) := ok_is_any_value T
  have C_is_key : Cl CX0 P w K mg base 3 "is_key" (spB K isKey) := ok_is_key T
  refine clX T.f_want_entry sc_want_entry (fun _ _ _ _ _ _ us hl => match us, hl with | [_, _, _], _ => rfl) (fun vs H Q E h => ?_) (fun f cdv A outer s H vs Q E hr h => ?_)
  · obtain ⟨dl, dv, dk, vl, vv, vk, rfl, _⟩ := h
    rfl
  obtain ⟨dl, dv, dk, vl, vv, vk, rfl, hl, hv, hk, al, pv', pk, k⟩ := h
  refine ⟨_, (pss_cons (ps_expr (pe_cl C_want_label hr (by decide) (passes_call (takes_of rfl rfl rfl rfl) (fun _ _ _ _ h => h)) rfl (pa_cons (pv 0) pa_nil)))
      (pss_cons (ps_if (pt_not (pt_val (pe_cl C_is_any_value hr (by decide) pass0 rfl (pa_cons (pv 1) pa_nil)))) (pss_one (ps_raise rfl (takes_of rfl rfl rfl rfl) (pmk_x Z.IK.T Z.IK.F.ini Z.IK.F.typ XI (hr.mono (by decide)) rfl T.g_InvalidKey (pa_cons (pv 1) pa_nil)))) pss_nil)
      (pss_one (ps_if (pt_not (pt_val (pe_cl C_is_key hr (by decide) pass0 rfl (pa_cons (pv 2) pa_nil)))) (pss_one (ps_raise rfl (takes_of rfl rfl rfl rfl) (pmk_x Z.IK.T Z.IK.F.ini Z.IK.F.typ XI (hr.mono (by decide)) rfl T.g_InvalidKey (pa_cons (pv 2) pa_nil)))) pss_nil)))), ?_⟩
  refine ⟨_, rfl, dl, vl, rfl, hl, al, fun il H1 e1 => ?_, fun il cls dx H' r => ?_⟩
  · refine ⟨_, rfl, dv, vv, rfl, Rp.same e1 _ _ hv, pv', fun H2 e2 => ⟨_, rfl, ?_⟩⟩
    cases ia : isAny dv with
    | false =>
      unfold entErr at k
      rw [if_neg (by rw [il]; exact Bool.noConfusion), if_pos ia] at k
      refine iteT ⟨_, rfl, _, rfl, fun H3 dd t1 e3 h1 h2 => k _ _ _ ⟨"value", dd, t1, vv, rfl, rfl, h1, h2, Rp.same ((e1.trans e2).trans e3) dv vv hv, (e1.trans e2).trans e3⟩⟩
    | true =>
      refine iteF ⟨_, rfl, dk, vk, rfl, Rp.same (e1.trans e2) _ _ hk, pk, fun H3 e3 => ⟨_, rfl, ?_⟩⟩
      cases ik : isKey dk with
      | false =>
        unfold entErr at k
        rw [if_neg (by rw [il]; exact Bool.noConfusion), if_neg (by rw [ia]; exact Bool.noConfusion), if_pos ik] at k
        refine iteT ⟨_, rfl, _, rfl, fun H4 dd t1 e4 h1 h2 => k _ _ _ ⟨"value", dd, t1, vk, rfl, rfl, h1, h2, Rp.same (((e1.trans e2).trans e3).trans e4) dk vk hk, ((e1.trans e2).trans e3).trans e4⟩⟩
      | true =>
        unfold entErr at k
        rw [if_neg (by rw [il]; exact Bool.noConfusion), if_neg (by rw [ia]; exact Bool.noConfusion), if_neg (by rw [ik]; exact Bool.noConfusion)] at k
        exact iteF (k H3 ((e1.trans e2).trans e3))
  · unfold entErr at k
    rw [if_pos il] at k
    exact k cls dx H' r
end
end Abv
set_option Elab.async false
set_option linter.all false
set_option maxRecDepth 100000
set_option maxHeartbeats 4000000
/-! ## xs != [], many dicts locked -/
namespace Abv
open PySem PySem.Spec PyProof.Rows L2
section
variable {X : Cx} {K : PySem.W.Frag}
/-- a list against an empty one -/
def rNeNil (K : PySem.W.Frag) : R2 := fun x y H Q => ∃ a b xs, x = .ref a ∧ y = .ref b ∧ SqL K H a xs ∧ SqL K H b [] ∧ Q (.bl (!xs.isEmpty)) H
theorem neNil (hu : X.A.units < cLine) (hK : X.K = K := by rfl) : OpR X (compareOp .NotEq) (rNeNil K) := by
  subst hK
  intro pins s σ H x y v u Q I rx ry h
  obtain ⟨a, b, xs, rfl, rfl, ha, hb, q⟩ := h
  obtain rfl : v = Value.ref a := rx
  obtain rfl : u = Value.ref b := ry
  obtain ⟨us, r1, p1, _⟩ := I.list ha
  obtain ⟨ws, r2, p2, _⟩ := I.list hb
  cases r2
  cases r1 with
  | nil => exact SeqAt.RcNeAt.lists (e := fun _ => true) p1.isList p2.isList rfl hu (fun j h1 h2 => absurd h1 (by simp)) _ _ _ _ ⟨.bl false, H, I, rfl, q⟩
  | cons r rr => exact SeqAt.RcNeAt.lists_lengths p1.isList p2.isList (by simp) hu _ _ _ _ ⟨.bl true, H, I, rfl, q⟩
/-! ### locks -/
/-- t behind n locks -/
def nLock (t : TE) : Nat → TE
  | 0 => t
  | n + 1 => tLockE (nLock t n)
/-- t behind locks -/
def tLocks (t : TE) : TE := fun σ H Q => ∃ n, nLock t n σ H Q
theorem pe_locks {e : Expr} {t : TE} (h : PE X e t) : PE X e (tLocks t) := by
  have all : ∀ n, PE X e (nLock t n) := fun n => by
    induction n with
    | zero => exact h
    | succ n ih => exact pe_lock ih
  constructor
  intro pins s σ H Q I q
  obtain ⟨n, q⟩ := q
  exact (all n).run pins s σ H Q I q
end
/-- the dicts at ds locked -/
def frzL (H : Hp) : List (Addr × List (Key × V)) → List Obj → Hp
  | d :: ds, o :: os => frzL (upd H d.1 (.frz o (.dK d.2))) ds os
  | _, _ => H
/-- and let go again -/
def thawL (H : Hp) : List (Addr × List (Key × V)) → Hp
  | d :: ds => upd (thawL H ds) d.1 (.dK d.2)
  | [] => H
theorem frzL_out {H : Hp} {b : Addr} : ∀ {ds : List (Addr × List (Key × V))} {os : List Obj}, b ∉ ds.map (·.1) → frzL H ds os b = H b := by
  intro ds
  induction ds generalizing H with
  | nil => intro os _; rfl
  | cons d ds ih =>
    intro os hb
    cases os with
    | nil => rfl
    | cons o os =>
      show frzL (upd H d.1 (.frz o (.dK d.2))) ds os b = H b
      rw [List.map_cons, List.mem_cons, not_or] at hb
      rw [ih hb.2, upd_ne hb.1]
theorem frzL_at {H : Hp} : ∀ {ds : List (Addr × List (Key × V))} {os : List Obj}, (ds.map (·.1)).Nodup → os.length = ds.length → ∀ d ∈ ds, ∃ o, frzL H ds os d.1 = some (.frz o (.dK d.2)) := by
  intro ds
  induction ds generalizing H with
  | nil => intro os _ _ d hd; cases hd
  | cons e ds ih =>
    intro os nd hl d hd
    cases os with
    | nil => cases hl
    | cons o os =>
      rw [List.map_cons, List.nodup_cons] at nd
      rcases List.mem_cons.mp hd with rfl | hd
      · refine ⟨o, ?_⟩
        show frzL (upd H d.1 (.frz o (.dK d.2))) ds os d.1 = _
        rw [frzL_out nd.1, upd_same]
      · exact ih nd.2 (by simpa using hl) d hd
theorem thawL_out {H : Hp} {b : Addr} : ∀ {ds : List (Addr × List (Key × V))}, b ∉ ds.map (·.1) → thawL H ds b = H b := by
  intro ds
  induction ds with
  | nil => intro _; rfl
  | cons d ds ih =>
    intro hb
    rw [List.map_cons, List.mem_cons, not_or] at hb
    show upd (thawL H ds) d.1 (.dK d.2) b = H b
    rw [upd_ne hb.1, ih hb.2]
theorem thawL_at {H : Hp} : ∀ {ds : List (Addr × List (Key × V))}, (ds.map (·.1)).Nodup → ∀ d ∈ ds, thawL H ds d.1 = some (.dK d.2) := by
  intro ds
  induction ds with
  | nil => intro _ d hd; cases hd
  | cons e ds ih =>
    intro nd d hd
    rw [List.map_cons, List.nodup_cons] at nd
    show upd (thawL H ds) e.1 (.dK e.2) d.1 = _
    by_cases h : d.1 = e.1
    · rcases List.mem_cons.mp hd with rfl | hd
      · exact upd_same
      · exact absurd (h ▸ List.mem_map_of_mem hd) nd.1
    · rw [upd_ne h]
      rcases List.mem_cons.mp hd with rfl | hd
      · exact absurd rfl h
      · exact ih nd.2 d hd
/-- many locks at once: behind them the heap is frzL, and what comes out is thawed -/
theorem locks_of {t : TE} {σ : L2.St} {ds : List (Addr × List (Key × V))} {H : Hp} {Q : VK} (nd : (ds.map (·.1)).Nodup) (hH : ∀ d ∈ ds, H d.1 = some (.dK d.2))
    (h : ∀ (os : List Obj) (Q1 : VK), os.length = ds.length → (∀ v H', (∀ b o, frzL H ds os b = some o → H' b = some o) → Q v (thawL H' ds) → Q1 v H') → t σ (frzL H ds os) Q1) : tLocks t σ H Q := by
  refine ⟨ds.length, ?_⟩
  induction ds generalizing H Q with
  | nil => exact h [] Q rfl fun v H' _ q => q
  | cons d ds ih =>
    rw [List.map_cons, List.nodup_cons] at nd
    refine ⟨d.1, .dK d.2, hH d (List.mem_cons_self ..), True.intro, fun od => ih nd.2 (fun e he => ?_) fun os Q1 hl hQ => ?_⟩
    · have hne : e.1 ≠ d.1 := fun z => nd.1 (by rw [← z]; exact List.mem_map_of_mem (f := fun x : Addr × List (Key × V) => x.1) he)
      rw [upd_ne hne]
      exact hH e (List.mem_cons_of_mem _ he)
    · refine h (od :: os) Q1 (by simp [hl]) fun v H' keep q => hQ v H' keep ⟨?_, q⟩
      rw [thawL_out nd.1]
      refine keep _ _ ?_
      show frzL (upd H d.1 (.frz od (.dK d.2))) ds os d.1 = _
      rw [frzL_out nd.1, upd_same]
end Abv
set_option Elab.async false
set_option linter.all false
set_option maxRecDepth 100000
set_option maxHeartbeats 4000000
/-! ## The tree: what stands in its dicts -/
namespace Abv
open PySem PySem.Spec PyProof.Rows L2
/-! ### lists with keys -/
section
variable {α κ : Type} [DecidableEq κ]
theorem split_key (f : α → κ) (k : κ) : ∀ l : List α, (∃ A p B, l = A ++ p :: B ∧ f p = k ∧ ∀ q ∈ A, f q ≠ k) ∨ ∀ q ∈ l, f q ≠ k
  | [] => .inr fun q h => by cases h
  | x :: l => by
    by_cases h : f x = k
    · exact .inl ⟨[], x, l, rfl, h, fun q hq => by cases hq⟩
    rcases split_key f k l with ⟨A, p, B, rfl, hp, hA⟩ | hn
    · refine .inl ⟨x :: A, p, B, rfl, hp, fun q hq => ?_⟩
      rcases List.mem_cons.mp hq with rfl | hq
      · exact h
      · exact hA q hq
    · refine .inr fun q hq => ?_
      rcases List.mem_cons.mp hq with rfl | hq
      · exact h
      · exact hn q hq
theorem valV_no {g : α → κ} {h : α → V} {k : κ} : ∀ {l : List α}, (∀ q ∈ l, g q ≠ k) → valV (l.map fun p => (g p, h p)) k = none
  | [], _ => rfl
  | x :: l, hn => by
    rw [List.map_cons, valV_neg (hn x (List.mem_cons_self ..))]
    exact valV_no fun q hq => hn q (List.mem_cons_of_mem _ hq)
theorem valV_yes {g : α → κ} {h : α → V} {k : κ} {p : α} {B : List α} (hp : g p = k) : ∀ {A : List α}, (∀ q ∈ A, g q ≠ k) → valV ((A ++ p :: B).map fun p => (g p, h p)) k = some (h p)
  | [], _ => by
    rw [List.nil_append, List.map_cons, valV_pos hp]
  | x :: A, hn => by
    rw [List.cons_append, List.map_cons, valV_neg (hn x (List.mem_cons_self ..))]
    exact valV_yes hp fun q hq => hn q (List.mem_cons_of_mem _ hq)
end
abbrev InL := List (Key × Addr × List Str)
abbrev PlL := List (Str × Addr × InL)
def dS (S : List Str) : List (Key × V) := S.map fun s => (.inr s, .bl true)
def dI (L : InL) : List (Key × V) := L.map fun q => (q.1, .ref q.2.1)
def dP (Ps : PlL) : List (Key × V) := Ps.map fun p => (.inr p.1, .ref p.2.1)
def dV (Vs : List (Str × V)) : List (Key × V) := Vs.map fun p => (.inr p.1, p.2)
def adI (L : InL) : List Addr := L.map fun q => q.2.1
def adP (Ps : PlL) : List Addr := Ps.flatMap fun p => p.2.1 :: adI p.2.2
/-- the tree at x -/
structure TreeAt (K : PySem.W.Frag) (H : Hp) (x dv dp : Addr) (Vs : List (Str × V)) (Ps : PlL) : Prop where
  ins : ∃ dx, H x = some (.ins (CT K) dx [("own_values", .ref dv), ("own_places", .ref dp)])
  atV : H dv = some (.dK (dV Vs))
  atP : H dp = some (.dK (dP Ps))
  atI : ∀ p ∈ Ps, H p.2.1 = some (.dK (dI p.2.2))
  atS : ∀ p ∈ Ps, ∀ q ∈ p.2.2, H q.2.1 = some (.dK (dS q.2.2))
  nd : (dv :: dp :: adP Ps).Nodup
def vtV (v : V) : Str := vt (dOf v)
def z60 : Str := ⟨(List.replicate 60 122).toArray⟩
/-- the values and keys that are put -/
def menuV : List V := [.int 0, .int 1, .int 2, .int (-1), .bl true, .bl false, .str "", .str "a", .str "b", .str "1", .int (10 ^ 30 - 1), .str z60]
def menuK : List V := [.int 0, .int 1, .int 2, .int 10, .int (-3), .str "0", .str "a", .str "ab", .str "", .str z60, .int (10 ^ 30 - 1)]
theorem menuV_ok : ∀ v ∈ menuV, okV v = true := by decide +kernel
theorem menuK_ok : ∀ v ∈ menuK, okV v = true := by decide +kernel
/-- no key twice, few of each, all keys and values as they should be -/
structure TOk (n1 n2 n3 n4 : Nat) (Vs : List (Str × V)) (Ps : PlL) : Prop where
  kV : (Vs.map (·.1)).Nodup
  kP : (Ps.map (·.1)).Nodup
  kI : ∀ p ∈ Ps, (p.2.2.map (·.1)).Nodup
  kS : ∀ p ∈ Ps, ∀ q ∈ p.2.2, q.2.2.Nodup
  nV : Vs.length ≤ n1
  nP : Ps.length ≤ n2
  nI : ∀ p ∈ Ps, p.2.2.length ≤ n3
  nS : ∀ p ∈ Ps, ∀ q ∈ p.2.2, q.2.2.length ≤ n4
  okK : ∀ p ∈ Ps, ∀ q ∈ p.2.2, L2.kV q.1 ∈ menuK
  okVs : ∀ p ∈ Vs, p.2 ∈ menuV ∧ p.1 = vtV p.2
  cov : ∀ p ∈ Ps, p.1 ∈ Vs.map (·.1)
/-- what stands in it -/
def trip (Ps : PlL) : List (Str × Key × Str) := Ps.flatMap fun p => p.2.2.flatMap fun q => q.2.2.map fun s => (p.1, q.1, s)
theorem mem_trip {Ps : PlL} {t : Str} {k : Key} {s : Str} : (t, k, s) ∈ trip Ps ↔ ∃ p ∈ Ps, p.1 = t ∧ ∃ q ∈ p.2.2, q.1 = k ∧ s ∈ q.2.2 := by
  unfold trip
  simp only [List.mem_flatMap, List.mem_map, Prod.mk.injEq]
  constructor
  · rintro ⟨p, hp, q, hq, s', hs, rfl, rfl, rfl⟩
    exact ⟨p, hp, rfl, q, hq, rfl, hs⟩
  · rintro ⟨p, hp, rfl, q, hq, rfl, hs⟩
    exact ⟨p, hp, q, hq, s, hs, rfl, rfl, rfl⟩
/-- dicts may change, all else stays -/
def DkFr (H H' : Hp) : Prop := ∀ b o, H b = some o → (∀ kvs, o ≠ .dK kvs) → H' b = some o
theorem DkFr.of {H H' : Hp} (e : Same H H') : DkFr H H' := fun b o h _ => e b o h
theorem DkFr.refl (H : Hp) : DkFr H H := fun _ _ h _ => h
theorem DkFr.trans {H H1 H2 : Hp} (a : DkFr H H1) (b : DkFr H1 H2) : DkFr H H2 := fun c o h n => b c o (a c o h n) n
theorem DkFr.upd {H : Hp} {a : Addr} {kvs kvs' : List (Key × V)} (h : H a = some (.dK kvs)) : DkFr H (L2.upd H a (.dK kvs')) := fun b o hb n => by
  have : b ≠ a := by
    rintro rfl
    rw [h] at hb
    cases hb
    exact n _ rfl
  rw [upd_ne this]
  exact hb
theorem DkFr.kt {H H' : Hp} (e : DkFr H H') : Kt H H' := fun b o h s => e b o h fun kvs z => by
  rw [z] at s
  exact s
theorem DkFr.lst {K : PySem.W.Frag} {H H' : Hp} (e : DkFr H H') {a : Addr} {xs : List V} (h : SqL K H a xs) : SqL K H' a xs := by
  rcases h with (h | ⟨o, h⟩) | h
  · exact .inl (.inl (e _ _ h fun _ z => by cases z))
  · exact .inl (.inr ⟨o, e _ _ h fun _ z => by cases z⟩)
  · exact .inr h
section
variable {K : PySem.W.Frag} {C : Addr} {H H' : Hp}
mutual
theorem DkFr.rp (e : DkFr H H') : ∀ (d : Dt) (v : V), Rp K C H d v → Rp K C H' d v
  | .non, v, h => h
  | .bl b, v, h => h
  | .int i, v, h => h
  | .str s, v, h => h
  | .lst ds, v, h => by
    unfold Rp at h ⊢
    obtain ⟨a, xs, h1, h2, h3⟩ := h
    exact ⟨a, xs, h1, e.lst h2, DkFr.rpA e ds xs h3⟩
  | .tup ds, v, h => by
    unfold Rp at h ⊢
    obtain ⟨a, xs, h1, h2, h3⟩ := h
    exact ⟨a, xs, h1, e.kt.seqT h2, DkFr.rpA e ds xs h3⟩
  | .lab ms, v, h => by
    unfold Rp at h ⊢
    obtain ⟨a, dx, t, h1, h2, h3⟩ := h
    exact ⟨a, dx, t, h1, e _ _ h2 (fun _ z => by cases z), e.kt.seqT h3⟩
theorem DkFr.rpA (e : DkFr H H') : ∀ (ds : List Dt) (vs : List V), RpA K C H ds vs → RpA K C H' ds vs
  | [], vs, h => h
  | d :: ds, vs, h => by
    unfold RpA at h ⊢
    obtain ⟨v, r, h1, h2, h3⟩ := h
    exact ⟨v, r, h1, DkFr.rp e d v h2, DkFr.rpA e ds r h3⟩
end
end
section
variable {K : PySem.W.Frag} {H H' : Hp} {x dv dp : Addr} {Vs : List (Str × V)} {Ps A B : PlL} {n : Nat}
theorem TreeAt.same (e : Same H H') (T : TreeAt K H x dv dp Vs Ps) : TreeAt K H' x dv dp Vs Ps := by
  obtain ⟨dx, h⟩ := T.ins
  exact ⟨⟨dx, e _ _ h⟩, e _ _ T.atV, e _ _ T.atP, fun p hp => e _ _ (T.atI p hp), fun p hp q hq => e _ _ (T.atS p hp q hq), T.nd⟩
theorem mem_adP {p : Str × Addr × InL} (hp : p ∈ Ps) : p.2.1 ∈ adP Ps := List.mem_flatMap.mpr ⟨p, hp, List.mem_cons_self ..⟩
theorem mem_adP2 {p : Str × Addr × InL} {q : Key × Addr × List Str} (hp : p ∈ Ps) (hq : q ∈ p.2.2) : q.2.1 ∈ adP Ps :=
  List.mem_flatMap.mpr ⟨p, hp, List.mem_cons_of_mem _ (List.mem_map_of_mem (f := fun q : Key × Addr × List Str => q.2.1) hq)⟩
theorem TreeAt.dk (T : TreeAt K H x dv dp Vs Ps) {b : Addr} (h : b ∈ dv :: dp :: adP Ps) : ∃ kvs, H b = some (.dK kvs) := by
  rcases List.mem_cons.mp h with rfl | h
  · exact ⟨_, T.atV⟩
  rcases List.mem_cons.mp h with rfl | h
  · exact ⟨_, T.atP⟩
  obtain ⟨p, hp, h⟩ := List.mem_flatMap.mp h
  rcases List.mem_cons.mp h with rfl | h
  · exact ⟨_, T.atI p hp⟩
  obtain ⟨q, hq, rfl⟩ := List.mem_map.mp h
  exact ⟨_, T.atS p hp q hq⟩
theorem adP_mid (A B : PlL) (p : Str × Addr × InL) : adP (A ++ p :: B) = adP A ++ (p.2.1 :: (adI p.2.2 ++ adP B)) := by
  unfold adP
  rw [List.flatMap_append, List.flatMap_cons]
  rfl
theorem adI_mid (C D : InL) (q : Key × Addr × List Str) : adI (C ++ q :: D) = adI C ++ q.2.1 :: adI D := by
  unfold adI
  rw [List.map_append, List.map_cons]
/-- a new place -/
theorem TreeAt.addP (T : TreeAt K H x dv dp Vs Ps) {t : Str} {a : Addr} (ha : H a = none) : TreeAt K (upd (upd H a (.dK [])) dp (.dK (dP Ps ++ [(.inr t, .ref a)]))) x dv dp Vs (Ps ++ [(t, a, [])]) := by
  have na : a ∉ dv :: dp :: adP Ps := fun h => by
    obtain ⟨kvs, h⟩ := T.dk h
    rw [ha] at h
    cases h
  have nd := T.nd
  have e1 : dp ≠ dv := fun z => by
    rw [z] at nd
    simp at nd
  have e2 : a ≠ dp := fun z => na (by rw [z]; simp)
  have st : ∀ {b : Addr} {o : HO}, H b = some o → b ≠ dp → upd (upd H a (.dK [])) dp (.dK (dP Ps ++ [(.inr t, .ref a)])) b = some o := fun hb hne => by
    rw [upd_ne hne, upd_ne (ne_of_none hb ha)]
    exact hb
  have np : ∀ {b : Addr}, b ∈ adP Ps → b ≠ dp := fun hb z => by
    rw [z] at hb
    exact (List.nodup_cons.mp (List.nodup_cons.mp nd).2).1 hb
  obtain ⟨dx, hx⟩ := T.ins
  refine ⟨⟨dx, st hx fun z => ?_⟩, st T.atV (Ne.symm e1), ?_, fun p hp => ?_, fun p hp q hq => ?_, ?_⟩
  · rw [z, T.atP] at hx
    cases hx
  · rw [upd_same]
    unfold dP
    rw [List.map_append]
    rfl
  · rcases List.mem_append.mp hp with hp | hp
    · exact st (T.atI p hp) (np (mem_adP hp))
    · rw [List.mem_singleton.mp hp]
      show upd _ _ _ a = _
      rw [upd_ne e2, upd_same]
      rfl
  · rcases List.mem_append.mp hp with hp | hp
    · exact st (T.atS p hp q hq) (np (mem_adP2 hp hq))
    · rw [List.mem_singleton.mp hp] at hq
      cases hq
  · have e : adP (Ps ++ [(t, a, [])]) = adP Ps ++ [a] := by
      rw [adP_mid]
      rfl
    rw [e]
    have : dv :: dp :: (adP Ps ++ [a]) = (dv :: dp :: adP Ps) ++ [a] := rfl
    rw [this]
    refine List.nodup_append.mpr ⟨nd, by simp, fun b hb c hc => ?_⟩
    rw [List.mem_singleton.mp hc]
    rintro rfl
    exact na hb
/-- a new key at a place -/
theorem TreeAt.addI {t : Str} {a : Addr} {L : InL} (T : TreeAt K H x dv dp Vs (A ++ (t, a, L) :: B)) {k : Key} {c : Addr} (hc : H c = none) :
    TreeAt K (upd (upd H c (.dK [])) a (.dK (dI L ++ [(k, .ref c)]))) x dv dp Vs (A ++ (t, a, L ++ [(k, c, [])]) :: B) := by
  have nd := T.nd
  rw [adP_mid] at nd
  have hm : (t, a, L) ∈ A ++ (t, a, L) :: B := by simp
  have nc : ∀ {b : Addr}, b ∈ dv :: dp :: adP (A ++ (t, a, L) :: B) → b ≠ c := fun hb z => by
    obtain ⟨kvs, h⟩ := T.dk hb
    rw [z, hc] at h
    cases h
  have hac : c ≠ a := fun z => nc (b := a) (List.mem_cons_of_mem _ (List.mem_cons_of_mem _ (mem_adP hm))) z.symm
  have st : ∀ {b : Addr} {o : HO}, H b = some o → b ≠ a → upd (upd H c (.dK [])) a (.dK (dI L ++ [(k, .ref c)])) b = some o := fun hb hne => by
    rw [upd_ne hne, upd_ne (ne_of_none hb hc)]
    exact hb
  have h1 : a ∉ [dv, dp] ++ adP A := fun h => by
    have : ([dv, dp] ++ adP A ++ (a :: (adI L ++ adP B))).Nodup := by simpa using nd
    exact (List.nodup_append.mp this).2.2 a h a (List.mem_cons_self ..) rfl
  have h2 : a ∉ adI L ++ adP B := fun h => by
    have : ([dv, dp] ++ adP A ++ (a :: (adI L ++ adP B))).Nodup := by simpa using nd
    exact (List.nodup_cons.mp (List.nodup_append.mp this).2.1).1 h
  have nA : ∀ {b : Addr}, b ∈ adP A → b ≠ a := fun hb z => h1 (by rw [← z]; exact List.mem_append_right _ hb)
  have nB : ∀ {b : Addr}, b ∈ adP B → b ≠ a := fun hb z => h2 (by rw [← z]; exact List.mem_append_right _ hb)
  have nL : ∀ {b : Addr}, b ∈ adI L → b ≠ a := fun hb z => h2 (by rw [← z]; exact List.mem_append_left _ hb)
  obtain ⟨dx, hx⟩ := T.ins
  have ha := T.atI _ hm
  refine ⟨⟨dx, st hx fun z => ?_⟩, st T.atV fun z => h1 (by simp [z]), (by rw [st T.atP fun z => h1 (by simp [z])]; simp [dP]), fun p hp => ?_, fun p hp q hq => ?_, ?_⟩
  · rw [z, ha] at hx
    cases hx
  · rcases List.mem_append.mp hp with hp | hp
    · exact st (T.atI p (List.mem_append_left _ hp)) (nA (mem_adP hp))
    · rcases List.mem_cons.mp hp with rfl | hp
      · rw [upd_same]
        unfold dI
        rw [List.map_append]
        rfl
      · exact st (T.atI p (List.mem_append_right _ (List.mem_cons_of_mem _ hp))) (nB (mem_adP hp))
  · rcases List.mem_append.mp hp with hp | hp
    · exact st (T.atS p (List.mem_append_left _ hp) q hq) (nA (mem_adP2 hp hq))
    · rcases List.mem_cons.mp hp with rfl | hp
      · rcases List.mem_append.mp hq with hq | hq
        · exact st (T.atS _ hm q hq) (nL (List.mem_map_of_mem (f := fun q : Key × Addr × List Str => q.2.1) hq))
        · rw [List.mem_singleton.mp hq]
          show upd _ _ _ c = _
          rw [upd_ne hac, upd_same]
          rfl
      · exact st (T.atS p (List.mem_append_right _ (List.mem_cons_of_mem _ hp)) q hq) (nB (mem_adP2 hp hq))
  · have e : adI (L ++ [(k, c, [])]) = adI L ++ [c] := by
      unfold adI
      rw [List.map_append]
      rfl
    have nd0 := T.nd
    have pm : (c :: (dv :: dp :: adP (A ++ (t, a, L) :: B))).Perm (dv :: dp :: adP (A ++ (t, a, L ++ [(k, c, [])]) :: B)) := by
      rw [adP_mid, adP_mid, e]
      have : dv :: dp :: (adP A ++ a :: (adI L ++ [c] ++ adP B)) = (dv :: dp :: (adP A ++ a :: adI L)) ++ c :: adP B := by simp
      rw [this]
      have : dv :: dp :: (adP A ++ a :: (adI L ++ adP B)) = (dv :: dp :: (adP A ++ a :: adI L)) ++ adP B := by simp
      rw [this]
      exact List.perm_middle.symm
    rw [← pm.nodup_iff]
    exact List.nodup_cons.mpr ⟨fun h => nc h rfl, nd0⟩
/-- other labels at a key -/
theorem TreeAt.setS {t : Str} {a b : Addr} {k : Key} {S S' : List Str} {C D : InL} (T : TreeAt K H x dv dp Vs (A ++ (t, a, C ++ (k, b, S) :: D) :: B)) :
    TreeAt K (upd H b (.dK (dS S'))) x dv dp Vs (A ++ (t, a, C ++ (k, b, S') :: D) :: B) := by
  have nd := T.nd
  rw [adP_mid] at nd
  have nd := (show ([dv, dp] ++ adP A ++ (a :: (adI C ++ b :: adI D ++ adP B))).Nodup by
    rw [adI_mid] at nd
    simpa using nd)
  have hm : (t, a, C ++ (k, b, S) :: D) ∈ A ++ (t, a, C ++ (k, b, S) :: D) :: B := by simp
  have hq : (k, b, S) ∈ C ++ (k, b, S) :: D := by simp
  have h1 : b ∉ [dv, dp] ++ adP A := fun h => (List.nodup_append.mp nd).2.2 b h b (by simp) rfl
  have h2 : b ∉ [a] ++ adI C ∧ b ∉ adI D ++ adP B := by
    have h3 := (List.nodup_append.mp nd).2.1
    have h3 : (([a] ++ adI C) ++ (b :: (adI D ++ adP B))).Nodup := by simpa using h3
    exact ⟨fun h => (List.nodup_append.mp h3).2.2 b h b (by simp) rfl, (List.nodup_cons.mp (List.nodup_append.mp h3).2.1).1⟩
  have st : ∀ {c : Addr} {o : HO}, H c = some o → c ≠ b → upd H b (.dK (dS S')) c = some o := fun hb hne => by
    rw [upd_ne hne]
    exact hb
  have nA : ∀ {c : Addr}, c ∈ adP A → c ≠ b := fun hb z => h1 (by rw [← z]; exact List.mem_append_right _ hb)
  have nB : ∀ {c : Addr}, c ∈ adP B → c ≠ b := fun hb z => h2.2 (by rw [← z]; exact List.mem_append_right _ hb)
  have nC : ∀ {c : Addr}, c ∈ adI C → c ≠ b := fun hb z => h2.1 (by rw [← z]; exact List.mem_append_right _ hb)
  have nD : ∀ {c : Addr}, c ∈ adI D → c ≠ b := fun hb z => h2.2 (by rw [← z]; exact List.mem_append_left _ hb)
  obtain ⟨dx, hx⟩ := T.ins
  have hb := T.atS _ hm _ hq
  refine ⟨⟨dx, st hx fun z => ?_⟩, st T.atV fun z => h1 (by simp [z]), (by rw [st T.atP fun z => h1 (by simp [z])]; simp [dP]), fun p hp => ?_, fun p hp q hq => ?_, ?_⟩
  · rw [z, hb] at hx
    cases hx
  · rcases List.mem_append.mp hp with hp | hp
    · exact st (T.atI p (List.mem_append_left _ hp)) (nA (mem_adP hp))
    · rcases List.mem_cons.mp hp with rfl | hp
      · have := st (T.atI _ hm) (fun z => h2.1 (by rw [← z]; simp))
        rw [this]
        unfold dI
        simp
      · exact st (T.atI p (List.mem_append_right _ (List.mem_cons_of_mem _ hp))) (nB (mem_adP hp))
  · rcases List.mem_append.mp hp with hp | hp
    · exact st (T.atS p (List.mem_append_left _ hp) q hq) (nA (mem_adP2 hp hq))
    · rcases List.mem_cons.mp hp with rfl | hp
      · rcases List.mem_append.mp hq with hq | hq
        · exact st (T.atS _ hm q (List.mem_append_left _ hq)) (nC (List.mem_map_of_mem (f := fun q : Key × Addr × List Str => q.2.1) hq))
        · rcases List.mem_cons.mp hq with rfl | hq
          · rw [upd_same]
          · exact st (T.atS _ hm q (List.mem_append_right _ (List.mem_cons_of_mem _ hq))) (nD (List.mem_map_of_mem (f := fun q : Key × Addr × List Str => q.2.1) hq))
      · exact st (T.atS p (List.mem_append_right _ (List.mem_cons_of_mem _ hp)) q hq) (nB (mem_adP2 hp hq))
  · have e : adP (A ++ (t, a, C ++ (k, b, S') :: D) :: B) = adP (A ++ (t, a, C ++ (k, b, S) :: D) :: B) := by
      rw [adP_mid, adP_mid, adI_mid, adI_mid]
    rw [e]
    exact T.nd
/-- other values -/
theorem TreeAt.setV (T : TreeAt K H x dv dp Vs Ps) {Vs' : List (Str × V)} : TreeAt K (upd H dv (.dK (dV Vs'))) x dv dp Vs' Ps := by
  have nd := T.nd
  have st : ∀ {c : Addr} {o : HO}, H c = some o → c ≠ dv → upd H dv (.dK (dV Vs')) c = some o := fun hb hne => by
    rw [upd_ne hne]
    exact hb
  have n1 : ∀ {c : Addr}, c ∈ dp :: adP Ps → c ≠ dv := fun hc z => (List.nodup_cons.mp nd).1 (by rw [← z]; exact hc)
  obtain ⟨dx, hx⟩ := T.ins
  refine ⟨⟨dx, st hx fun z => ?_⟩, upd_same, st T.atP (n1 (List.mem_cons_self ..)), fun p hp => st (T.atI p hp) (n1 (List.mem_cons_of_mem _ (mem_adP hp))), fun p hp q hq => st (T.atS p hp q hq) (n1 (List.mem_cons_of_mem _ (mem_adP2 hp hq))), nd⟩
  rw [z, T.atV] at hx
  cases hx
/-! ### the steps of a put -/
variable {n1 n2 n3 n4 : Nat} {t : Str} {a b : Addr} {k : Key} {C D L : InL} {S S' : List Str}
theorem TOk.addP (T : TOk n1 n2 n3 n4 Vs Ps) (h : ∀ q ∈ Ps, q.1 ≠ t) (hc : t ∈ Vs.map (·.1)) : TOk n1 (n2 + 1) n3 n4 Vs (Ps ++ [(t, a, [])]) where
  kV := T.kV
  kP := by
    rw [List.map_append]
    refine List.nodup_append.mpr ⟨T.kP, by simp, fun x hx y hy => ?_⟩
    obtain ⟨p, hp, rfl⟩ := List.mem_map.mp hx
    rw [List.mem_singleton.mp hy]
    exact h p hp
  kI := fun p hp => (List.mem_append.mp hp).elim (T.kI p) fun hp => by rw [List.mem_singleton.mp hp]; simp
  kS := fun p hp => (List.mem_append.mp hp).elim (T.kS p) fun hp q hq => by rw [List.mem_singleton.mp hp] at hq; cases hq
  nV := T.nV
  nP := by
    have := T.nP
    rw [List.length_append]
    simp only [List.length_singleton]
    omega
  nI := fun p hp => (List.mem_append.mp hp).elim (T.nI p) fun hp => by rw [List.mem_singleton.mp hp]; exact Nat.zero_le _
  nS := fun p hp => (List.mem_append.mp hp).elim (T.nS p) fun hp q hq => by rw [List.mem_singleton.mp hp] at hq; cases hq
  okK := fun p hp => (List.mem_append.mp hp).elim (T.okK p) fun hp q hq => by rw [List.mem_singleton.mp hp] at hq; cases hq
  okVs := T.okVs
  cov := fun p hp => (List.mem_append.mp hp).elim (T.cov p) fun hp => by rw [List.mem_singleton.mp hp]; exact hc
/-- one place's dict is another -/
theorem TOk.mid {L L' : InL} {m3 m4 : Nat} (T : TOk n1 n2 n3 n4 Vs (A ++ (t, a, L) :: B)) (h3 : n3 ≤ m3) (h4 : n4 ≤ m4) (kI : (L'.map (·.1)).Nodup) (kS : ∀ q ∈ L', q.2.2.Nodup) (nI : L'.length ≤ m3) (nS : ∀ q ∈ L', q.2.2.length ≤ m4) (okK : ∀ q ∈ L', L2.kV q.1 ∈ menuK) :
    TOk n1 n2 m3 m4 Vs (A ++ (t, a, L') :: B) := by
  have old : ∀ p ∈ A ++ (t, a, L') :: B, p ∈ A ++ (t, a, L) :: B ∨ p = (t, a, L') := fun p hp => by
    rcases List.mem_append.mp hp with hp | hp
    · exact .inl (List.mem_append_left _ hp)
    · rcases List.mem_cons.mp hp with hp | hp
      · exact .inr hp
      · exact .inl (List.mem_append_right _ (List.mem_cons_of_mem _ hp))
  have hk : (A ++ (t, a, L') :: B).map (·.1) = (A ++ (t, a, L) :: B).map (·.1) := by simp
  refine ⟨T.kV, by rw [hk]; exact T.kP, fun p hp => ?_, fun p hp => ?_, T.nV, ?_, fun p hp => ?_, fun p hp => ?_, fun p hp => ?_, T.okVs, fun p hp => ?_⟩
  · rcases old p hp with h | rfl
    · exact T.kI p h
    · exact kI
  · rcases old p hp with h | rfl
    · exact T.kS p h
    · exact kS
  · have := T.nP
    simpa using this
  · rcases old p hp with h | rfl
    · exact Nat.le_trans (T.nI p h) h3
    · exact nI
  · rcases old p hp with h | rfl
    · exact fun q hq => Nat.le_trans (T.nS p h q hq) h4
    · exact nS
  · rcases old p hp with h | rfl
    · exact T.okK p h
    · exact okK
  · rcases old p hp with h | rfl
    · exact T.cov p h
    · exact T.cov (t, a, L) (by simp)
theorem TOk.addI (T : TOk n1 n2 n3 n4 Vs (A ++ (t, a, L) :: B)) (h : ∀ q ∈ L, q.1 ≠ k) (hk : L2.kV k ∈ menuK) : TOk n1 n2 (n3 + 1) n4 Vs (A ++ (t, a, L ++ [(k, b, [])]) :: B) := by
  have hm : (t, a, L) ∈ A ++ (t, a, L) :: B := by simp
  refine T.mid (Nat.le_succ _) (Nat.le_refl _) ?_ (fun q hq => ?_) ?_ (fun q hq => ?_) (fun q hq => ?_)
  · rw [List.map_append]
    refine List.nodup_append.mpr ⟨T.kI _ hm, by simp, fun x hx y hy => ?_⟩
    obtain ⟨p, hp, rfl⟩ := List.mem_map.mp hx
    rw [List.mem_singleton.mp hy]
    exact h p hp
  · exact (List.mem_append.mp hq).elim (T.kS _ hm q) fun hq => by rw [List.mem_singleton.mp hq]; simp
  · have := T.nI _ hm
    rw [List.length_append]
    simp only [List.length_singleton]
    exact Nat.succ_le_succ this
  · exact (List.mem_append.mp hq).elim (T.nS _ hm q) fun hq => by rw [List.mem_singleton.mp hq]; exact Nat.zero_le _
  · exact (List.mem_append.mp hq).elim (T.okK _ hm q) fun hq => by rw [List.mem_singleton.mp hq]; exact hk
theorem TOk.setS (T : TOk n1 n2 n3 n4 Vs (A ++ (t, a, C ++ (k, b, S) :: D) :: B)) {m4 : Nat} (h4 : n4 ≤ m4) (nd : S'.Nodup) (hl : S'.length ≤ m4) : TOk n1 n2 n3 m4 Vs (A ++ (t, a, C ++ (k, b, S') :: D) :: B) := by
  have hm : (t, a, C ++ (k, b, S) :: D) ∈ A ++ (t, a, C ++ (k, b, S) :: D) :: B := by simp
  have old : ∀ q ∈ C ++ (k, b, S') :: D, q ∈ C ++ (k, b, S) :: D ∨ q = (k, b, S') := fun p hp => by
    rcases List.mem_append.mp hp with hp | hp
    · exact .inl (List.mem_append_left _ hp)
    · rcases List.mem_cons.mp hp with hp | hp
      · exact .inr hp
      · exact .inl (List.mem_append_right _ (List.mem_cons_of_mem _ hp))
  refine T.mid (Nat.le_refl _) h4 ?_ (fun q hq => ?_) ?_ (fun q hq => ?_) (fun q hq => ?_)
  · have := T.kI _ hm
    simpa using this
  · rcases old q hq with h | rfl
    · exact T.kS _ hm q h
    · exact nd
  · have := T.nI _ hm
    simpa using this
  · rcases old q hq with h | rfl
    · exact Nat.le_trans (T.nS _ hm q h) h4
    · exact hl
  · rcases old q hq with h | rfl
    · exact T.okK _ hm q h
    · exact T.okK _ hm (k, b, S) (by simp)
theorem trip_addP : trip (Ps ++ [(t, a, [])]) = trip Ps := by
  unfold trip
  rw [List.flatMap_append]
  simp
theorem trip_addI : trip (A ++ (t, a, L ++ [(k, b, [])]) :: B) = trip (A ++ (t, a, L) :: B) := by
  unfold trip
  simp
theorem trip_setS {z : Str × Key × Str} : z ∈ trip (A ++ (t, a, C ++ (k, b, S) :: D) :: B) ↔ (z ∈ trip (A ++ (t, a, C ++ D) :: B) ∨ ∃ s ∈ S, z = (t, k, s)) := by
  unfold trip
  simp only [List.flatMap_append, List.flatMap_cons, List.mem_append, List.mem_map]
  constructor
  · rintro (h | ((h | ((⟨s, hs, rfl⟩) | h)) | h))
    · exact .inl (.inl h)
    · exact .inl (.inr (.inl (.inl h)))
    · exact .inr ⟨s, hs, rfl⟩
    · exact .inl (.inr (.inl (.inr h)))
    · exact .inl (.inr (.inr h))
  · rintro ((h | ((h | h) | h)) | ⟨s, hs, rfl⟩)
    · exact .inl h
    · exact .inr (.inl (.inl h))
    · exact .inr (.inl (.inr (.inr h)))
    · exact .inr (.inr h)
    · exact .inr (.inl (.inr (.inl ⟨s, hs, rfl⟩)))
/-! ### what the dicts answer -/
theorem valP_no (h : ∀ q ∈ Ps, q.1 ≠ t) : valV (dP Ps) (.inr t) = none := valV_no (g := fun p : Str × Addr × InL => (Sum.inr p.1 : Key)) (h := fun p => V.ref p.2.1) fun q hq z => h q hq (Sum.inr.inj z)
theorem valP_yes (h : ∀ q ∈ A, q.1 ≠ t) : valV (dP (A ++ (t, a, L) :: B)) (.inr t) = some (.ref a) := valV_yes (g := fun p : Str × Addr × InL => (Sum.inr p.1 : Key)) (h := fun p => V.ref p.2.1) (p := (t, a, L)) rfl fun q hq z => h q hq (Sum.inr.inj z)
theorem valI_no (h : ∀ q ∈ L, q.1 ≠ k) : valV (dI L) k = none := valV_no (g := fun p : Key × Addr × List Str => p.1) (h := fun p => V.ref p.2.1) h
theorem valI_yes (h : ∀ q ∈ C, q.1 ≠ k) : valV (dI (C ++ (k, b, S) :: D)) k = some (.ref b) := valV_yes (g := fun p : Key × Addr × List Str => p.1) (h := fun p => V.ref p.2.1) (p := (k, b, S)) rfl h
theorem valS_no {s : Str} (h : s ∉ S) : valV (dS S) (.inr s) = none := valV_no (g := fun p : Str => (Sum.inr p : Key)) (h := fun _ => V.bl true) fun q hq z => h (by rw [← Sum.inr.inj z]; exact hq)
theorem valS_yes {s : Str} (h : s ∈ S) : valV (dS S) (.inr s) = some (.bl true) := by
  rcases split_key (fun x : Str => x) s S with ⟨A, p, B, rfl, rfl, hA⟩ | hn
  · exact valV_yes (g := fun p : Str => (Sum.inr p : Key)) (h := fun _ => V.bl true) rfl fun q hq z => hA q hq (Sum.inr.inj z)
  · exact absurd rfl (hn s h)
theorem putS {s : Str} : putK (dS S) (.inr s) (.bl true) = dS (if s ∈ S then S else S ++ [s]) := by
  by_cases h : s ∈ S
  · rw [if_pos h]
    unfold putK
    have ha : ((dS S).any fun kv => decide (kv.1 = (Sum.inr s : Key))) = true := by
      rw [valV_any, valS_yes h]
      rfl
    rw [if_pos ha]
    unfold dS
    rw [List.map_map]
    refine List.map_congr_left fun x _ => ?_
    show (if (Sum.inr x : Key) = Sum.inr s then _ else _) = _
    split <;> rfl
  · rw [if_neg h, putK_new _ (valS_no h)]
    unfold dS
    rw [List.map_append]
    rfl
theorem dropS {s : Str} : dropK (dS S) (.inr s) = dS (S.filter fun x => decide (x ≠ s)) := by
  unfold dropK dS
  rw [List.filter_map]
  congr 1
  refine List.filter_congr fun x _ => ?_
  simp
theorem putV {v : V} : putK (dV Vs) (.inr t) v = dV (putK Vs t v) := by
  unfold putK dV
  have ha : ((Vs.map fun p => ((Sum.inr p.1 : Key), p.2)).any fun kv => decide (kv.1 = (Sum.inr t : Key))) = Vs.any fun kv => decide (kv.1 = t) := by
    rw [List.any_map]
    refine congrArg (fun f => Vs.any f) ?_
    funext p
    simp [Function.comp]
  rw [ha]
  split
  · rw [List.map_map, List.map_map]
    refine List.map_congr_left fun x _ => ?_
    by_cases h : x.1 = t <;> simp [Function.comp, h]
  · rw [List.map_append]
    rfl
theorem TOk.setV {v : V} (T : TOk n1 n2 n3 n4 Vs Ps) (hv : v ∈ menuV) (ht : t = vtV v) : TOk (n1 + 1) n2 n3 n4 (putK Vs t v) Ps ∧ t ∈ (putK Vs t v).map (·.1) := by
  have keys : (∃ h : t ∈ Vs.map (·.1), (putK Vs t v).map (·.1) = Vs.map (·.1)) ∨ (t ∉ Vs.map (·.1) ∧ putK Vs t v = Vs ++ [(t, v)]) := by
    by_cases h : t ∈ Vs.map (·.1)
    · refine .inl ⟨h, ?_⟩
      obtain ⟨p, hp, hpt⟩ := List.mem_map.mp h
      unfold putK
      rw [if_pos (List.any_eq_true.mpr ⟨p, hp, decide_eq_true hpt⟩), List.map_map]
      refine List.map_congr_left fun x _ => ?_
      show (if x.1 = t then (x.1, v) else x).1 = x.1
      split <;> rfl
    · refine .inr ⟨h, ?_⟩
      unfold putK
      rw [if_neg]
      intro ha
      obtain ⟨p, hp, hpt⟩ := List.any_eq_true.mp ha
      exact h (List.mem_map.mpr ⟨p, hp, of_decide_eq_true hpt⟩)
  have mem : ∀ p ∈ putK Vs t v, p ∈ Vs ∨ p = (t, v) := fun p hp => by
    unfold putK at hp
    split at hp
    · obtain ⟨x, hx, rfl⟩ := List.mem_map.mp hp
      by_cases h : x.1 = t
      · rw [if_pos h, h]
        exact .inr rfl
      · rw [if_neg h]
        exact .inl hx
    · rcases List.mem_append.mp hp with hp | hp
      · exact .inl hp
      · exact .inr (List.mem_singleton.mp hp)
  have sub : ∀ x ∈ Vs.map (·.1), x ∈ (putK Vs t v).map (·.1) := fun x hx => by
    rcases keys with ⟨_, e⟩ | ⟨_, e⟩
    · rw [e]
      exact hx
    · rw [e, List.map_append]
      exact List.mem_append_left _ hx
  have ht' : t ∈ (putK Vs t v).map (·.1) := by
    rcases keys with ⟨h, e⟩ | ⟨_, e⟩
    · rw [e]
      exact h
    · rw [e, List.map_append]
      simp
  refine ⟨⟨?_, T.kP, T.kI, T.kS, Nat.le_trans (length_putK ..) (Nat.succ_le_succ T.nV), T.nP, T.nI, T.nS, T.okK, fun p hp => ?_, fun p hp => sub _ (T.cov p hp)⟩, ht'⟩
  · rcases keys with ⟨_, e⟩ | ⟨h, e⟩
    · rw [e]
      exact T.kV
    · rw [e, List.map_append]
      refine List.nodup_append.mpr ⟨T.kV, by simp, fun x hx y hy => ?_⟩
      rw [List.mem_singleton.mp hy]
      rintro rfl
      exact h hx
  · rcases mem p hp with h | rfl
    · exact T.okVs p h
    · exact ⟨hv, ht⟩
end
end Abv
set_option Elab.async false
set_option linter.all false
set_option maxRecDepth 100000
set_option maxHeartbeats 4000000
/-! ## IndexTree's methods -/
namespace Abv
open PySem PySem.Spec PyProof.Rows L2
def keyOf : V → Key
  | .int i => .inl i
  | .str s => .inr s
  | _ => .inl 0
theorem menuK_key : ∀ v ∈ menuK, kV (keyOf v) = v := by decide +kernel
section
variable {P : Program} {w : World} {K : PySem.W.Frag} {mg : Str → Option Value} {base : Heap}
/-! ### put_entry -/
def spPut (K : PySem.W.Frag) : Sp := fun vs H Q E => ∃ x dv dp dl d2 dk vl vv vk Vs Ps n, vs = [.ref x, vl, vv, vk] ∧ Rp K (CL K) H dl vl ∧ Rp K (CL K) H d2 vv ∧ Rp K (CL K) H dk vk ∧ lblArg dl = true ∧ pln d2 = true ∧ pln dk = true ∧
  TreeAt K H x dv dp Vs Ps ∧ TOk n n n n Vs Ps ∧ n < 60 ∧ (entErr dl d2 dk = none → vv ∈ menuV ∧ vk ∈ menuK ∧ d2 = dOf vv ∧ dk = dOf vk ∧ ∃ ms, dl = .lab ms ∧ LblOk ms) ∧
  OrErr K H (entErr dl d2 dk) E (∀ H' Vs' Ps', DkFr H H' → TreeAt K H' x dv dp Vs' Ps' → TOk (n + 1) (n + 1) (n + 1) (n + 1) Vs' Ps' →
    (∀ ms, dl = .lab ms → ∀ z, z ∈ trip Ps' ↔ z ∈ trip Ps ∨ z = (vtV vv, keyOf vk, lt ms)) → Q .non H')
abbrev s_IndexTree_put_entry : Stmt := inClass (top 40) 1
abbrev n_IndexTree_put_entry : List Str := ["self", "label", "value", "key", "text"]
theorem sc_IndexTree_put_entry : FnScope n_IndexTree_put_entry ["self", "label", "value", "key"] (defScope s_IndexTree_put_entry) := ⟨rfl, rfl, rfl, by decide +kernel, rfl, by decide +kernel, by decide +kernel⟩
theorem ok_put (T : Tx K mg) (Y : Ty K) (Z : Xs P K) : FnR P w K mg base (L2.CX P w) 5 (He.ma K (CT K) "put_entry") (spPut K) := by
  have C_want_entry : Cl (L2.CX P w) P w K mg base 4 "want_entry" (spWantE K) := ok_want_entry T Y Z
  have C_value_text : Cl CX0 P w K mg base 3 "value_text" (sp_value_text K) := ok_value_text T
  have FS : FnR P w K mg base CX0 1 (He.ma K (CL K) "__str__") (spStr K) := ok_str T Y
  refine ofDF Y.put.2 sc_IndexTree_put_entry (fun _ _ _ _ _ _ us hl => match us, hl with | [_, _, _, _], _ => rfl) (fun vs H Q E h => ?_) (fun cdv A outer s H vs Q E hr h => ?_)
  · obtain ⟨x, dv, dp, dl, d2, dk, vl, vv, vk, Vs, Ps, n, rfl, _⟩ := h
    rfl
  obtain ⟨x, dv, dp, dl, d2, dk, vl, vv, vk, Vs, Ps, n, rfl, hl, hv, hk, al, a2, ak, TA, TO, hn, hok, k⟩ := h
  refine ⟨_, (pss_cons (ps_expr (pe_cl C_want_entry hr (by decide) (passes_call (takes_of rfl rfl rfl rfl) (fun _ _ _ _ h => h)) rfl (pa_cons (pv 1) (pa_cons (pv 2) (pa_cons (pv 3) pa_nil)))))
      (pss_cons (ps_set (i := 4) sc_IndexTree_put_entry.nd rfl (Or.inl rfl) (pe_cl C_value_text hr (by decide) pass0 rfl (pa_cons (pv 2) pa_nil)))
      (pss_cons (ps_dput (hu_of hr) (pe_fldK (K := K) (pv 0)) (pv 4) (pv 2) rfl)
      (pss_one (ps_dput (hu_of hr) (pe_dsetd (pe_dsetd (pe_fldK (K := K) (pv 0)) (pv 4) pe_dnewK ⟨rfl, rfl, rfl, rfl⟩) (pv 3) pe_dnewK ⟨rfl, rfl, rfl, rfl⟩) (pe_callTy (T := "str") (strO ⟨Y.lstr.1.at_, Y.lstr.1.fn⟩ FS (hr.mono (by decide))) (by rfl) T.b_str (by decide +kernel) (pa_cons (pv 1) pa_nil)) pe_bl rfl))))), ?_⟩
  refine ⟨_, rfl, _, rfl, _, rfl, dl, d2, dk, vl, vv, vk, rfl, hl, hv, hk, al, a2, ak, ?_⟩
  cases he : entErr dl d2 dk with
  | some e =>
    rw [he] at k
    exact k
  | none =>
  rw [he] at k
  obtain ⟨mV, mK, e2, ek, ms, rfl, hm⟩ := hok he
  intro H1 e1
  have iA : isAny d2 = true := by
    cases h : isAny d2 with
    | true => rfl
    | false =>
      unfold entErr at he
      rw [if_neg (by simp [isLab]), if_pos h] at he
      cases he
  subst e2 ek
  refine ⟨_, rfl, _, vv, rfl, Rp.same e1 _ _ hv, a2, iA, fun H2 e2 => ?_⟩
  have e12 := e1.trans e2
  have T2 := TA.same e12
  have hl2 := Rp.same e12 _ _ hl
  obtain ⟨dx, hx⟩ := T2.ins
  have lV : (dV Vs).length < sizeLine := by
    unfold dV
    rw [List.length_map, sizeLine_eq]
    have := TO.nV
    omega
  refine ⟨vv, rfl, _, rfl, x, CT K, dx, _, _, rfl, hx, Y.cT, Y.aV, rfl, _, rfl, dv, _, rfl, DPut.k (k := .inr (vtV vv)) T2.atV lV, ?_⟩
  rw [putV]
  have T3 := T2.setV (Vs' := putK Vs (vtV vv) vv)
  obtain ⟨O3, hc⟩ := TO.setV mV rfl
  have fr3 : DkFr H (upd H2 dv (.dK (dV (putK Vs (vtV vv) vv)))) := (DkFr.of e12).trans (DkFr.upd T2.atV)
  have hl3 := DkFr.rp (DkFr.upd (kvs' := dV (putK Vs (vtV vv) vv)) T2.atV) _ _ hl2
  generalize upd H2 dv (.dK (dV (putK Vs (vtV vv) vv))) = H3 at T3 fr3 hl3
  generalize putK Vs (vtV vv) vv = Vs1 at T3 O3 hc
  obtain ⟨dx, hx⟩ := T3.ins
  have lP : (dP Ps).length < sizeLine := by
    unfold dP
    rw [List.length_map, sizeLine_eq]
    have := O3.nP
    omega
  refine ⟨_, rfl, x, CT K, dx, _, _, rfl, hx, Y.cT, Y.aP, rfl, dp, rfl, .inl ⟨_, .of T3.atP⟩, _, rfl, fun n1 hn1 => ?_⟩
  have eN := Same.new (u := .dK []) hn1
  have T4 := T3.same eN
  have fr4 := fr3.trans (DkFr.of eN)
  have hl4 := Rp.same eN _ _ hl3
  have nn1 : upd H3 n1 (.dK []) n1 = some (.dK []) := upd_same
  rcases split_key (fun p : Str × Addr × InL => p.1) (vtV vv) Ps with ⟨A, ⟨t', a, L⟩, B, hPs, ht, hA⟩ | hno
  case' inl =>
    obtain rfl : t' = vtV vv := ht
    subst hPs
    refine ⟨_, .inr (vtV vv), T4.atP, rfl, lP, fun v hv => ?_, fun hv => absurd hv (by rw [valP_yes hA]; simp)⟩
    rw [valP_yes hA] at hv
    cases hv
    have O5 : TOk (n + 1) (n + 1) n n Vs1 (A ++ (vtV vv, a, L) :: B) := ⟨O3.kV, O3.kP, O3.kI, O3.kS, O3.nV, Nat.le_succ_of_le O3.nP, O3.nI, O3.nS, O3.okK, O3.okVs, O3.cov⟩
    have k5 : ∀ H' Vs' Ps', DkFr H H' → TreeAt K H' x dv dp Vs' Ps' → TOk (n + 1) (n + 1) (n + 1) (n + 1) Vs' Ps' → (∀ z, z ∈ trip Ps' ↔ z ∈ trip (A ++ (vtV vv, a, L) :: B) ∨ z = (vtV vv, keyOf vk, lt ms)) → Q .non H' :=
      fun H' Vs' Ps' f T O h => k H' Vs' Ps' f T O fun ms' e z => by cases e; exact h z
    have T5 := T4
    have fr5 := fr4
    have hl5 := hl4
    generalize upd H3 n1 (.dK []) = H5 at T5 fr5 hl5
  case' inr =>
    have hfr := T3.addP (t := vtV vv) hn1
    refine ⟨_, .inr (vtV vv), T4.atP, rfl, lP, fun v hv => absurd hv (by rw [valP_no hno]; simp), fun hv => ?_⟩
    rw [putK_new _ hv]
    have O5 := O3.addP (a := n1) hno hc
    have k5 : ∀ H' Vs' Ps', DkFr H H' → TreeAt K H' x dv dp Vs' Ps' → TOk (n + 1) (n + 1) (n + 1) (n + 1) Vs' Ps' → (∀ z, z ∈ trip Ps' ↔ z ∈ trip (Ps ++ (vtV vv, n1, []) :: []) ∨ z = (vtV vv, keyOf vk, lt ms)) → Q .non H' :=
      fun H' Vs' Ps' f T O h => k H' Vs' Ps' f T O fun ms' e z => by
        cases e
        have := h z
        rw [show trip (Ps ++ (vtV vv, n1, []) :: []) = trip Ps from trip_addP] at this
        exact this
    have T5 := hfr
    have fr5 := fr4.trans (DkFr.upd (kvs' := dP Ps ++ [(.inr (vtV vv), .ref n1)]) T4.atP)
    have hl5 := DkFr.rp (DkFr.upd (kvs' := dP Ps ++ [(.inr (vtV vv), .ref n1)]) T4.atP) _ _ hl4
    generalize upd (upd H3 n1 (.dK [])) dp (.dK (dP Ps ++ [(.inr (vtV vv), .ref n1)])) = H5 at T5 fr5 hl5
    generalize n1 = a at *
    generalize Ps = A at *
    generalize hL : ([] : InL) = L at *
    generalize hB : ([] : PlL) = B at *
  all_goals
    have hm5 : (vtV vv, a, L) ∈ A ++ (vtV vv, a, L) :: B := by simp
    have hkk : kV (keyOf vk) = vk := menuK_key vk mK
    have lI : (dI L).length < sizeLine := by
      unfold dI
      rw [List.length_map, sizeLine_eq]
      have : L.length ≤ n := O5.nI _ hm5
      omega
    refine ⟨a, rfl, .inl ⟨_, .of (T5.atI _ hm5)⟩, vk, rfl, fun n2 hn2 => ?_⟩
    have eN2 := Same.new (u := .dK []) hn2
    have T6 := T5.same eN2
    have fr6 := fr5.trans (DkFr.of eN2)
    have hl6 := Rp.same eN2 _ _ hl5
    rcases split_key (fun q : Key × Addr × List Str => q.1) (keyOf vk) L with ⟨C, ⟨k', b, S⟩, D, hLs, hk', hC⟩ | hno2
    case' inl =>
      obtain rfl : k' = keyOf vk := hk'
      subst hLs
      refine ⟨_, keyOf vk, T6.atI _ hm5, hkk.symm, lI, fun v hv => ?_, fun hv => absurd hv (by rw [valI_yes hC]; simp)⟩
      rw [valI_yes hC] at hv
      cases hv
      have O7 : TOk (n + 1) (n + 1) (n + 1) n Vs1 (A ++ (vtV vv, a, C ++ (keyOf vk, b, S) :: D) :: B) := ⟨O5.kV, O5.kP, O5.kI, O5.kS, O5.nV, O5.nP, fun p hp => Nat.le_succ_of_le (O5.nI p hp), O5.nS, O5.okK, O5.okVs, O5.cov⟩
      have k7 := k5
      have T7 := T6
      have fr7 := fr6
      have hl7 := hl6
      generalize upd H5 n2 (.dK []) = H7 at T7 fr7 hl7
    case' inr =>
      refine ⟨_, keyOf vk, T6.atI _ hm5, hkk.symm, lI, fun v hv => absurd hv (by rw [valI_no hno2]; simp), fun hv => ?_⟩
      rw [putK_new _ hv]
      have O7 := O5.addI (b := n2) hno2 (by rw [hkk]; exact mK)
      have k7 : ∀ H' Vs' Ps', DkFr H H' → TreeAt K H' x dv dp Vs' Ps' → TOk (n + 1) (n + 1) (n + 1) (n + 1) Vs' Ps' → (∀ z, z ∈ trip Ps' ↔ z ∈ trip (A ++ (vtV vv, a, L ++ (keyOf vk, n2, []) :: []) :: B) ∨ z = (vtV vv, keyOf vk, lt ms)) → Q .non H' :=
        fun H' Vs' Ps' f T O h => k5 H' Vs' Ps' f T O fun z => by
          have := h z
          rw [show trip (A ++ (vtV vv, a, L ++ (keyOf vk, n2, []) :: []) :: B) = trip (A ++ (vtV vv, a, L) :: B) from trip_addI] at this
          exact this
      have T7 := T5.addI (k := keyOf vk) hn2
      have fr7 := fr6.trans (DkFr.upd (kvs' := dI L ++ [(keyOf vk, .ref n2)]) (T6.atI _ hm5))
      have hl7 := DkFr.rp (DkFr.upd (kvs' := dI L ++ [(keyOf vk, .ref n2)]) (T6.atI _ hm5)) _ _ hl6
      generalize upd (upd H5 n2 (.dK [])) a (.dK (dI L ++ [(keyOf vk, .ref n2)])) = H7 at T7 fr7 hl7
      generalize n2 = b at *
      generalize hS : ([] : List Str) = S at *
      generalize hD : ([] : InL) = D at *
      generalize L = C at *
    all_goals
      have hm7 : (vtV vv, a, C ++ (keyOf vk, b, S) :: D) ∈ A ++ (vtV vv, a, C ++ (keyOf vk, b, S) :: D) :: B := by simp
      have hq7 : (keyOf vk, b, S) ∈ C ++ (keyOf vk, b, S) :: D := by simp
      have lS : (dS S).length < sizeLine := by
        unfold dS
        rw [List.length_map, sizeLine_eq]
        have : S.length ≤ n := O7.nS _ hm7 _ hq7
        omega
      obtain ⟨al, dxl, tl, hal, hal2, hal3⟩ := (show ∃ a' dx t, vl = .ref a' ∧ H7 a' = some (.ins (CL K) dx [("own_marks", .ref t)]) ∧ SqT K H7 t (ms.map V.str) by
        unfold Rp at hl7
        exact hl7)
      subst hal
      refine ⟨_, rfl, al, dxl, _, rfl, hal2, al, ms, rfl, hl7, hm, fun H8 e8 => ⟨_, rfl, b, _, rfl, DPut.k (k := .inr (lt ms)) (e8 _ _ (T7.atS _ hm7 _ hq7)) lS, ?_⟩⟩
      rw [putS]
      have T8 := (T7.same e8).setS (S' := if lt ms ∈ S then S else S ++ [lt ms])
      have fr8 := (fr7.trans (DkFr.of e8)).trans (DkFr.upd (kvs' := dS (if lt ms ∈ S then S else S ++ [lt ms])) (e8 _ _ (T7.atS _ hm7 _ hq7)))
      have nS : S.Nodup := O7.kS _ hm7 _ hq7
      have lS2 : S.length ≤ n := O7.nS _ hm7 _ hq7
      refine k7 _ _ _ fr8 T8 (O7.setS (Nat.le_succ n) ?_ ?_) fun z => ?_
      · split
        · exact nS
        · rename_i h
          exact List.nodup_append.mpr ⟨nS, by simp, fun x hx y hy => by rw [List.mem_singleton.mp hy]; rintro rfl; exact h hx⟩
      · split
        · omega
        · rw [List.length_append]
          simp only [List.length_singleton]
          omega
      · rw [trip_setS, trip_setS]
        by_cases h : lt ms ∈ S
        · rw [if_pos h]
          constructor
          · exact fun q => .inl q
          · rintro (q | rfl)
            · exact q
            · exact .inr ⟨lt ms, h, rfl⟩
        · rw [if_neg h]
          constructor
          · rintro (q | ⟨s, hs, rfl⟩)
            · exact .inl (.inl q)
            · rcases List.mem_append.mp hs with hs | hs
              · exact .inl (.inr ⟨s, hs, rfl⟩)
              · rw [List.mem_singleton.mp hs]
                exact .inr rfl
          · rintro ((q | ⟨s, hs, rfl⟩) | rfl)
            · exact .inl q
            · exact .inr ⟨s, List.mem_append_left _ hs, rfl⟩
            · exact .inr ⟨lt ms, List.mem_append_right _ (List.mem_singleton_self _), rfl⟩
/-! ### take_entry -/
theorem uniq_key {α κ : Type} (f : α → κ) {A B : List α} {p q : α} (nd : ((A ++ p :: B).map f).Nodup) (hq : q ∈ A ++ p :: B) (e : f q = f p) : q = p := by
  rw [List.map_append, List.map_cons] at nd
  rcases List.mem_append.mp hq with h | h
  · exact absurd e ((List.nodup_append.mp nd).2.2 _ (List.mem_map_of_mem h) _ (List.mem_cons_self ..))
  · rcases List.mem_cons.mp h with h | h
    · exact h
    · exact absurd (List.mem_map_of_mem (f := f) h) (by rw [e]; exact (List.nodup_cons.mp (List.nodup_append.mp nd).2.1).1)
theorem trip_at {n1 n2 n3 n4 : Nat} {Vs : List (Str × V)} {A B : PlL} {C D : InL} {t : Str} {a b : Addr} {k : Key} {S : List Str} {s : Str} (O : TOk n1 n2 n3 n4 Vs (A ++ (t, a, C ++ (k, b, S) :: D) :: B)) :
    (t, k, s) ∈ trip (A ++ (t, a, C ++ (k, b, S) :: D) :: B) ↔ s ∈ S := by
  rw [mem_trip]
  constructor
  · rintro ⟨p, hp, ht, q, hq, hk, hs⟩
    have := uniq_key (fun p : Str × Addr × InL => p.1) O.kP hp ht
    subst this
    have := uniq_key (fun p : Key × Addr × List Str => p.1) (O.kI _ hp) hq hk
    subst this
    exact hs
  · exact fun hs => ⟨(t, a, C ++ (k, b, S) :: D), by simp, rfl, (k, b, S), by simp, rfl, hs⟩
def spTake (K : PySem.W.Frag) : Sp := fun vs H Q E => ∃ x dv dp dl d2 dk vl vv vk Vs Ps n, vs = [.ref x, vl, vv, vk] ∧ Rp K (CL K) H dl vl ∧ Rp K (CL K) H d2 vv ∧ Rp K (CL K) H dk vk ∧ lblArg dl = true ∧ pln d2 = true ∧ pln dk = true ∧
  TreeAt K H x dv dp Vs Ps ∧ TOk n n n n Vs Ps ∧ n < 60 ∧ (entErr dl d2 dk = none → vv ∈ menuV ∧ vk ∈ menuK ∧ d2 = dOf vv ∧ dk = dOf vk ∧ ∃ ms, dl = .lab ms ∧ LblOk ms) ∧
  OrErr K H (entErr dl d2 dk) E (∀ ms, dl = .lab ms →
    ((vtV vv, keyOf vk, lt ms) ∈ trip Ps → ∀ H' Ps', DkFr H H' → TreeAt K H' x dv dp Vs Ps' → TOk n n n n Vs Ps' → (∀ z, z ∈ trip Ps' ↔ z ∈ trip Ps ∧ z ≠ (vtV vv, keyOf vk, lt ms)) → Q .non H') ∧
    ((vtV vv, keyOf vk, lt ms) ∉ trip Ps → ∀ cls dx H', RErr K H "NoEntry" dk cls dx H' → E cls dx H'))
abbrev s_IndexTree_take_entry : Stmt := inClass (top 40) 2
abbrev n_IndexTree_take_entry : List Str := ["self", "label", "value", "key", "labels"]
theorem sc_IndexTree_take_entry : FnScope n_IndexTree_take_entry ["self", "label", "value", "key"] (defScope s_IndexTree_take_entry) := ⟨rfl, rfl, rfl, by decide +kernel, rfl, by decide +kernel, by decide +kernel⟩
theorem ok_take (T : Tx K mg) (Y : Ty K) (Z : Xs P K) : FnR P w K mg base (L2.CX P w) 5 (He.ma K (CT K) "take_entry") (spTake K) := by
  have C_want_entry : Cl (L2.CX P w) P w K mg base 4 "want_entry" (spWantE K) := ok_want_entry T Y Z
  have C_value_text : Cl CX0 P w K mg base 3 "value_text" (sp_value_text K) := ok_value_text T
  have FS : FnR P w K mg base CX0 1 (He.ma K (CL K) "__str__") (spStr K) := ok_str T Y
  have XI : FnR P w K mg base CX0 1 (He.ma K (He.ga K "NoEntry") "__init__") (sp_exI K (He.ga K "NoEntry") "key" "NoEntry") := ok_exNE T Z
  refine ofDF Y.take.2 sc_IndexTree_take_entry (fun _ _ _ _ _ _ us hl => match us, hl with | [_, _, _, _], _ => rfl) (fun vs H Q E h => ?_) (fun cdv A outer s H vs Q E hr h => ?_)
  · obtain ⟨x, dv, dp, dl, d2, dk, vl, vv, vk, Vs, Ps, n, rfl, _⟩ := h
    rfl
  obtain ⟨x, dv, dp, dl, d2, dk, vl, vv, vk, Vs, Ps, n, rfl, hl, hv, hk, al, a2, ak, TA, TO, hn, hok, k⟩ := h
  refine ⟨_, (pss_cons (ps_expr (pe_cl C_want_entry hr (by decide) (passes_call (takes_of rfl rfl rfl rfl) (fun _ _ _ _ h => h)) rfl (pa_cons (pv 1) (pa_cons (pv 2) (pa_cons (pv 3) pa_nil)))))
      (pss_cons (ps_set (i := 4) sc_IndexTree_take_entry.nd rfl (Or.inl rfl) (pe_dget2 (hu_of hr) (pe_dget2 (hu_of hr) (pe_fldK (K := K) (pv 0)) (pe_cl C_value_text hr (by decide) pass0 rfl (pa_cons (pv 2) pa_nil)) pe_dnewK ⟨rfl, rfl, rfl, rfl⟩) (pv 3) pe_dnewK ⟨rfl, rfl, rfl, rfl⟩))
      (pss_cons (ps_if (pt_cmp (pc_dnotin (hu_of hr) (pe_callTy (T := "str") (strO ⟨Y.lstr.1.at_, Y.lstr.1.fn⟩ FS (hr.mono (by decide))) (by rfl) T.b_str (by decide +kernel) (pa_cons (pv 1) pa_nil)) (pv 4))) (pss_one (ps_raise rfl (takes_of rfl rfl rfl rfl) (pmk_x Z.NE.T Z.NE.F.ini Z.NE.F.typ XI (hr.mono (by decide)) rfl T.g_NoEntry (pa_cons (pv 3) pa_nil)))) pss_nil)
      (pss_one (ps_expr (pe_dpop1 (pv 4) (pe_callTy (T := "str") (strO ⟨Y.lstr.1.at_, Y.lstr.1.fn⟩ FS (hr.mono (by decide))) (by rfl) T.b_str (by decide +kernel) (pa_cons (pv 1) pa_nil)) ⟨rfl, rfl, rfl, rfl⟩)))))), ?_⟩
  refine ⟨_, rfl, _, rfl, _, rfl, dl, d2, dk, vl, vv, vk, rfl, hl, hv, hk, al, a2, ak, ?_⟩
  cases he : entErr dl d2 dk with
  | some e =>
    rw [he] at k
    exact k
  | none =>
  rw [he] at k
  obtain ⟨mV, mK, e2, ek, ms, rfl, hm⟩ := hok he
  obtain ⟨k1, k2⟩ := k ms rfl
  intro H1 e1
  have iA : isAny d2 = true := by
    cases h : isAny d2 with
    | true => rfl
    | false =>
      unfold entErr at he
      rw [if_neg (by simp [isLab]), if_pos h] at he
      cases he
  subst e2 ek
  have T1 := TA.same e1
  obtain ⟨dx, hx⟩ := T1.ins
  refine ⟨_, rfl, x, CT K, dx, _, _, rfl, hx, Y.cT, Y.aP, rfl, dp, rfl, .inl ⟨_, .of T1.atP⟩, _, rfl, _, vv, rfl, Rp.same e1 _ _ hv, a2, iA, fun H2 e2 n1 hn1 => ⟨_, DGet.k (k := .inr (vtV vv)) (Same.new hn1 _ _ (e2 _ _ T1.atP)), ?_⟩⟩
  have e13 := (e1.trans e2).trans (Same.new (u := .dK []) hn1)
  have hkk : kV (keyOf vk) = vk := menuK_key vk mK
  have T3 := TA.same e13
  have hl3 := Rp.same e13 _ _ hl
  have hk3 := Rp.same e13 _ _ hk
  have nn1 : upd H2 n1 (.dK []) n1 = some (.dK []) := upd_same
  generalize upd H2 n1 (.dK []) = H3 at e13 T3 hl3 hk3 nn1
  -- what is asked of the labels' dict
  have fin : ∀ (b : Addr) (S : List Str) (H4 : Hp), Same H H4 → H4 b = some (.dK (dS S)) → (lt ms ∈ S → (vtV vv, keyOf vk, lt ms) ∈ trip Ps ∧ ∃ A a C B D, Ps = A ++ (vtV vv, a, C ++ (keyOf vk, b, S) :: D) :: B) → (lt ms ∉ S → (vtV vv, keyOf vk, lt ms) ∉ trip Ps) →
      (tSeq (tIfS (tB (tDNotIn (tCB (rStrO (CL K) (spStr K)) (tCons (tVar 1) tNil)) (tVar 4))) (fun D σ H => tMkX (He.ga K "NoEntry") "key" "NoEntry" (tCons (tVar 3) tNil) σ H fun cls d H' => E cls d H') tNext) (tDrop (tDPop1 (tVar 4) (tCB (rStrO (CL K) (spStr K)) (tCons (tVar 1) tNil)))) : TS)
        { nx := fun _ H' => Q .non H', rt := Q } [some (.ref x), some vl, some vv, some vk, some (.ref b)] H4 := by
    intro b S H4 e4 hb yes no
    have hl4 := Rp.same e4 _ _ hl
    obtain ⟨al, dxl, tl, rfl, hal2, hal3⟩ := (show ∃ a' dx t, vl = .ref a' ∧ H4 a' = some (.ins (CL K) dx [("own_marks", .ref t)]) ∧ SqT K H4 t (ms.map V.str) by
      unfold Rp at hl4
      exact hl4)
    refine ⟨_, rfl, al, dxl, _, rfl, hal2, al, ms, rfl, hl4, hm, fun H5 e5 => ⟨_, rfl, _, rfl, b, _, rfl, DGet.k (k := .inr (lt ms)) (e5 _ _ hb), _, rfl, ?_⟩⟩
    have e05 := e4.trans e5
    by_cases hs : lt ms ∈ S
    · rw [valS_yes hs]
      obtain ⟨ht, A', a, C, B, D, hPs⟩ := yes hs
      refine iteF ⟨_, rfl, b, rfl, .inl ⟨_, .of (e5 _ _ hb)⟩, _, rfl, al, dxl, _, rfl, e5 _ _ hal2, al, ms, rfl, Rp.same e5 _ _ hl4, hm, fun H6 e6 => ⟨_, rfl, _, .inr (lt ms), .bl true, e6 _ _ (e5 _ _ hb), rfl, valS_yes hs, ?_⟩⟩
      have e06 := e05.trans e6
      have T6 := TA.same e06
      rw [dropS]
      subst hPs
      have hb6 := e6 _ _ (e5 _ _ hb)
      have nS : S.Nodup := TO.kS (vtV vv, a, C ++ (keyOf vk, b, S) :: D) (by simp) (keyOf vk, b, S) (by simp)
      have lS : S.length ≤ n := TO.nS (vtV vv, a, C ++ (keyOf vk, b, S) :: D) (by simp) (keyOf vk, b, S) (by simp)
      refine k1 ht _ _ ((DkFr.of e06).trans (DkFr.upd hb6)) T6.setS (TO.setS (Nat.le_refl n) (nS.filter _) (Nat.le_trans (List.length_filter_le ..) lS)) fun z => ?_
      rw [trip_setS, trip_setS]
      constructor
      · rintro (q | ⟨s, hs', rfl⟩)
        · refine ⟨.inl q, ?_⟩
          rintro rfl
          obtain ⟨p, hp, ht', q', hq', hk', hs''⟩ := mem_trip.mp q
          have hkP : ((A' ++ (vtV vv, a, C ++ D) :: B).map (·.1)).Nodup := by
            have := TO.kP
            simpa using this
          have := uniq_key (fun p : Str × Addr × InL => p.1) hkP hp ht'
          subst this
          have hkI := TO.kI (vtV vv, a, C ++ (keyOf vk, b, S) :: D) (by simp)
          rw [List.map_append, List.map_cons] at hkI
          have hq' : q' ∈ C ++ D := hq'
          rcases List.mem_append.mp hq' with h | h
          · exact (List.nodup_append.mp hkI).2.2 _ (List.mem_map_of_mem (f := fun q : Key × Addr × List Str => q.1) h) _ (List.mem_cons_self ..) hk'
          · exact (List.nodup_cons.mp (List.nodup_append.mp hkI).2.1).1 (by have := List.mem_map_of_mem (f := fun q : Key × Addr × List Str => q.1) h; rw [hk'] at this; exact this)
        · have := List.mem_filter.mp hs'
          refine ⟨.inr ⟨s, this.1, rfl⟩, fun e => ?_⟩
          have e : s = lt ms := by
            injection e with _ e
            injection e
          exact absurd e (of_decide_eq_true this.2)
      · rintro ⟨q | ⟨s, hs', rfl⟩, ne⟩
        · exact .inl q
        · refine .inr ⟨s, List.mem_filter.mpr ⟨hs', decide_eq_true fun e => ne (by rw [e])⟩, rfl⟩
    · rw [valS_no hs]
      refine iteT ⟨_, rfl, _, rfl, fun H6 dd t1 e6 h1 h2 => k2 (no hs) _ _ _ ⟨"key", dd, t1, vk, rfl, rfl, h1, h2, Rp.same (e05.trans e6) _ _ hk, e05.trans e6⟩⟩
  rcases split_key (fun p : Str × Addr × InL => p.1) (vtV vv) Ps with ⟨A, ⟨t', a, L⟩, B, hPs, ht, hA⟩ | hno
  · obtain rfl : t' = vtV vv := ht
    subst hPs
    rw [valP_yes hA]
    have hm5 : (vtV vv, a, L) ∈ A ++ (vtV vv, a, L) :: B := by simp
    refine ⟨a, rfl, .inl ⟨_, .of (T3.atI _ hm5)⟩, vk, rfl, fun n2 hn2 => ?_⟩
    have e34 := Same.new (u := .dK []) hn2
    have dg : DGet (upd H3 n2 (.dK [])) a vk (valV (dI L) (keyOf vk)) := by
      have := DGet.k (k := keyOf vk) (e34 _ _ (T3.atI _ hm5))
      rw [hkk] at this
      exact this
    refine ⟨_, dg, ?_⟩
    rcases split_key (fun q : Key × Addr × List Str => q.1) (keyOf vk) L with ⟨C, ⟨k', b, S⟩, D, hLs, hk', hC⟩ | hno2
    · obtain rfl : k' = keyOf vk := hk'
      subst hLs
      rw [valI_yes hC]
      refine fin b S _ (e13.trans e34) (e34 _ _ (T3.atS _ hm5 (keyOf vk, b, S) (by simp))) (fun hs => ⟨(trip_at TO).mpr hs, A, a, C, B, D, rfl⟩) fun hs h => hs ((trip_at TO).mp h)
    · rw [valI_no hno2]
      refine fin n2 [] _ (e13.trans e34) upd_same (fun h => by cases h) fun _ h => ?_
      obtain ⟨p, hp, ht', q', hq', hk', _⟩ := mem_trip.mp h
      have := uniq_key (fun p : Str × Addr × InL => p.1) TO.kP hp ht'
      subst this
      exact hno2 q' hq' hk'
  · rw [valP_no hno]
    refine ⟨n1, rfl, .inl ⟨_, .of nn1⟩, vk, rfl, fun n2 hn2 => ?_⟩
    have e34 := Same.new (u := .dK []) hn2
    have dg : DGet (upd H3 n2 (.dK [])) n1 vk none := by
      have := DGet.k (k := keyOf vk) (e34 _ _ nn1)
      rw [hkk] at this
      exact this
    refine ⟨_, dg, fin n2 [] _ (e13.trans e34) upd_same (fun h => by cases h) fun _ h => ?_⟩
    obtain ⟨p, hp, ht', _⟩ := mem_trip.mp h
    exact hno p hp ht'
end
end Abv
set_option Elab.async false
set_option linter.all false
set_option maxRecDepth 100000
set_option maxHeartbeats 4000000
/-! ## entries_at, steps, different -/
namespace Abv
open PySem PySem.Spec PyProof.Rows L2
/-- the places' part of a tree -/
structure TreeP (K : PySem.W.Frag) (H : Hp) (x dp : Addr) (Ps : PlL) : Prop where
  ins : ∃ dx dv, H x = some (.ins (CT K) dx [("own_values", .ref dv), ("own_places", .ref dp)])
  atP : H dp = some (.dK (dP Ps))
  atI : ∀ p ∈ Ps, H p.2.1 = some (.dK (dI p.2.2))
  atS : ∀ p ∈ Ps, ∀ q ∈ p.2.2, H q.2.1 = some (.dK (dS q.2.2))
theorem TreeAt.tp {K : PySem.W.Frag} {H : Hp} {x dv dp : Addr} {Vs : List (Str × V)} {Ps : PlL} (T : TreeAt K H x dv dp Vs Ps) : TreeP K H x dp Ps := by
  obtain ⟨dx, h⟩ := T.ins
  exact ⟨⟨dx, _, h⟩, T.atP, T.atI, T.atS⟩
theorem TreeP.same {K : PySem.W.Frag} {H H' : Hp} {x dp : Addr} {Ps : PlL} (e : Same H H') (T : TreeP K H x dp Ps) : TreeP K H' x dp Ps := by
  obtain ⟨dx, fs, h⟩ := T.ins
  exact ⟨⟨dx, fs, e _ _ h⟩, e _ _ T.atP, fun p hp => e _ _ (T.atI p hp), fun p hp q hq => e _ _ (T.atS p hp q hq)⟩
def inner (Ps : PlL) (t : Str) : InL := match Ps.find? fun p => decide (p.1 = t) with
  | some p => p.2.2
  | none => []
def labsAt (L : InL) (v : V) : List Str := match L.find? fun q => decide (kV q.1 = v) with
  | some q => q.2.2
  | none => []
def keysOf (L : InL) : List V := L.map fun q => kV q.1
def entD (v : V) (ms : List Str) : Dt := .tup [dOf v, .lab ms]
/-- the entries below ms, by keys -/
def ents (L : InL) (ms : List Str) (ks : List V) : List Dt := ks.flatMap fun v => ((belows ms).filter fun l => decide (lt l ∈ labsAt L v)).map (entD v)
/-- all stays but what stands at D -/
def SB (D : Addr) (H H' : Hp) : Prop := ∀ b o, H b = some o → b ≠ D → H' b = some o
theorem SB.refl (D : Addr) (H : Hp) : SB D H H := fun _ _ h _ => h
theorem SB.trans {D : Addr} {H H1 H2 : Hp} (a : SB D H H1) (b : SB D H1 H2) : SB D H H2 := fun c o h n => b c o (a c o h n) n
theorem SB.of {D : Addr} {H H' : Hp} (e : Same H H') : SB D H H' := fun b o h _ => e b o h
theorem SB.upd {D : Addr} {H : Hp} {u : HO} : SB D H (L2.upd H D u) := fun b o h n => by
  rw [upd_ne n]
  exact h
theorem SB.same {D : Addr} {H0 H H' : Hp} (a : Same H0 H) (b : SB D H H') (n : H0 D = none) : Same H0 H' := fun c o h => b c o (a c o h) (ne_of_none h n)
theorem find_mid {α κ : Type} [DecidableEq κ] (f : α → κ) {k : κ} {A B : List α} {p : α} (hp : f p = k) (hA : ∀ q ∈ A, f q ≠ k) : (A ++ p :: B).find? (fun q => decide (f q = k)) = some p := by
  rw [List.find?_append]
  have : A.find? (fun q => decide (f q = k)) = none := List.find?_eq_none.mpr fun q hq => by simp [hA q hq]
  rw [this, List.find?_cons_of_pos (by simp [hp])]
  rfl
theorem find_no {α κ : Type} [DecidableEq κ] (f : α → κ) {k : κ} {A : List α} (hA : ∀ q ∈ A, f q ≠ k) : A.find? (fun q => decide (f q = k)) = none := List.find?_eq_none.mpr fun q hq => by simp [hA q hq]
theorem place_get {K : PySem.W.Frag} {H : Hp} {x dp n1 : Addr} {Ps : PlL} {t : Str} (T : TreeP K H x dp Ps) (h1 : H n1 = some (.dK [])) :
    ∃ pl, (valV (dP Ps) (.inr t)).getD (.ref n1) = .ref pl ∧ H pl = some (.dK (dI (inner Ps t))) ∧ ∀ q ∈ inner Ps t, H q.2.1 = some (.dK (dS q.2.2)) := by
  rcases split_key (fun p : Str × Addr × InL => p.1) t Ps with ⟨A, ⟨t', a, L⟩, B, rfl, rfl, hA⟩ | hno
  · have e : inner (A ++ (t', a, L) :: B) t' = L := by
      unfold inner
      rw [find_mid (fun p : Str × Addr × InL => p.1) rfl hA]
    rw [valP_yes hA, e]
    exact ⟨a, rfl, T.atI (t', a, L) (by simp), T.atS (t', a, L) (by simp)⟩
  · have e : inner Ps t = [] := by
      unfold inner
      rw [find_no (fun p : Str × Addr × InL => p.1) hno]
    rw [valP_no hno, e]
    exact ⟨n1, rfl, h1, fun q hq => by cases hq⟩
theorem inner_mem {Ps : PlL} {t : Str} : inner Ps t = [] ∨ ∃ p ∈ Ps, p.1 = t ∧ inner Ps t = p.2.2 := by
  unfold inner
  cases h : Ps.find? fun p => decide (p.1 = t) with
  | none => exact .inl rfl
  | some p =>
    have := List.find?_some h
    exact .inr ⟨p, List.mem_of_find?_eq_some h, by simpa using this, rfl⟩
theorem kV_inj {a b : Key} (h : kV a = kV b) : a = b := by
  cases a <;> cases b <;> first | (injection h with h; rw [h]) | (cases h)
/-- what stands at a key that is there -/
theorem labs_get {L : InL} {v : V} (h : v ∈ keysOf L) : ∃ k b, v = kV k ∧ valV (dI L) k = some (.ref b) ∧ (k, b, labsAt L v) ∈ L := by
  obtain ⟨q, hq, rfl⟩ := List.mem_map.mp h
  rcases split_key (fun q : Key × Addr × List Str => q.1) q.1 L with ⟨C, ⟨k, b, S⟩, D, rfl, hk, hC⟩ | hno
  · have hk : k = q.1 := hk
    subst hk
    have e : labsAt (C ++ (q.1, b, S) :: D) (kV q.1) = S := by
      unfold labsAt
      rw [find_mid (fun q : Key × Addr × List Str => kV q.1) (p := (q.1, b, S)) rfl fun r hr z => hC r hr (kV_inj z)]
    rw [e]
    exact ⟨q.1, b, rfl, valI_yes hC, by simp⟩
  · exact absurd rfl (hno q hq)
theorem SB.kt {D : Addr} {H H' : Hp} {xs : List V} (h : SB D H H') (hD : H D = some (.lst xs)) : Kt H H' := fun b o e s => h b o e fun z => by
  rw [z, hD] at e
  cases e
  exact s
theorem belows_ok {ms l : List Str} (h : LblOk ms) (hl : l ∈ belows ms) : LblOk l := by
  obtain ⟨n, hn, hc⟩ := List.mem_flatMap.mp hl
  have := List.mem_range.mp hn
  have := h.le
  exact chs_ok h n l (by omega) hc
theorem belows_len {ms : List Str} (h : LblOk ms) : (belows ms).length ≤ 1280 := by
  have h1 : ∀ n, n ≤ 5 → ((List.range n).flatMap (chs ms)).length ≤ n * 256 := by
    intro n
    induction n with
    | zero => exact fun _ => Nat.le_refl _
    | succ n ih =>
      intro hn
      rw [List.range_succ, List.flatMap_append, List.length_append]
      have := ih (by omega)
      have := chs_le' h.le n (by omega)
      simp only [List.flatMap_cons, List.flatMap_nil, List.append_nil]
      omega
  have := h1 (ms.length + 1) (by have := h.le; omega)
  have := h.le
  unfold belows
  omega
theorem ents_snoc {L : InL} {ms : List Str} {ks : List V} {i : Nat} {v : V} (h : ks[i]? = some v) : ents L ms (ks.take (i + 1)) = ents L ms (ks.take i) ++ ((belows ms).filter fun l => decide (lt l ∈ labsAt L v)).map (entD v) := by
  unfold ents
  rw [List.take_add_one, h, List.flatMap_append]
  simp
theorem fm_if {α : Type} (p : α → Prop) [DecidablePred p] (g : α → Dt) : ∀ l : List α, l.filterMap (fun x => if p x then some (g x) else none) = (l.filter fun x => decide (p x)).map g
  | [] => rfl
  | x :: r => by
    rw [List.filterMap_cons, List.filter_cons, fm_if p g r]
    by_cases h : p x
    · rw [if_pos h, if_pos (decide_eq_true h)]
      rfl
    · rw [if_neg h, if_neg (by simp [h])]
def ent2Err (dl dv : Dt) : Option (Str × Dt) := if isLab dl = false then some ("InvalidLabel", dl) else if isAny dv = false then some ("InvalidKey", dv) else none
section
variable {P : Program} {w : World} {K : PySem.W.Frag} {mg : Str → Option Value} {base : Heap}
def spEnt (K : PySem.W.Frag) : Sp := fun vs H Q E => ∃ x dp dl d2 vl vv Ps, vs = [.ref x, vl, vv] ∧ Rp K (CL K) H dl vl ∧ Rp K (CL K) H d2 vv ∧ lblArg dl = true ∧ pln d2 = true ∧
  TreeP K H x dp Ps ∧ (∀ p ∈ Ps, p.2.2.length < 60 ∧ ∀ q ∈ p.2.2, kV q.1 ∈ menuK) ∧ (ent2Err dl d2 = none → okV vv = true ∧ d2 = dOf vv ∧ ∃ ms, dl = .lab ms ∧ LblOk ms) ∧
  OrErr K H (ent2Err dl d2) E (∀ ms, dl = .lab ms → ∀ H' p ks ys, Same H H' → H p = none → H' p = some (.lst ys) → ks.Perm (keysOf (inner Ps (vtV vv))) → ks.Pairwise vle → RpA K (CL K) H' (ents (inner Ps (vtV vv)) ms ks) ys → Q (.ref p) H')
abbrev s_IndexTree_entries_at : Stmt := inClass (top 40) 3
abbrev n_IndexTree_entries_at : List Str := ["self", "label", "value", "places", "found", "lowers", "key", "lower"]
theorem sc_IndexTree_entries_at : FnScope n_IndexTree_entries_at ["self", "label", "value"] (defScope s_IndexTree_entries_at) := ⟨rfl, rfl, rfl, by decide +kernel, rfl, by decide +kernel, by decide +kernel⟩
theorem ok_ent (T : Tx K mg) (Y : Ty K) (Z : Xs P K) : FnR P w K mg base (L2.CX P w) 9 (He.ma K (CT K) "entries_at") (spEnt K) := by
  have C_want_label : Cl (L2.CX P w) P w K mg base 3 "want_label" (spWantL K) := ok_want_label T Y Z
  have C_is_any_value : Cl CX0 P w K mg base 3 "is_any_value" (spB K isAny) := ok_is_any_value T
  have C_value_text : Cl CX0 P w K mg base 3 "value_text" (sp_value_text K) := ok_value_text T
  have C_in_value_order : Cl CX0 P w K mg base 4 "in_value_order" (sp_in_value_order K) := ok_in_value_order T
  have FS : FnR P w K mg base CX0 1 (He.ma K (CL K) "__str__") (spStr K) := ok_str T Y
  have XI : FnR P w K mg base CX0 1 (He.ma K (He.ga K "InvalidKey") "__init__") (sp_exI K (He.ga K "InvalidKey") "value" "InvalidKey") := ok_exIK T Z
  obtain ⟨fdb, FB, HB⟩ := ok_below (P := P) (w := w) (base := base) T Y
  refine ofDF Y.entries.2 sc_IndexTree_entries_at (fun _ _ _ _ _ _ us hl => match us, hl with | [_, _, _], _ => rfl) (fun vs H Q E h => ?_) (fun cdv A outer s H vs Q E hr h => ?_)
  · obtain ⟨x, dp, dl, d2, vl, vv, Ps, rfl, _⟩ := h
    rfl
  obtain ⟨x, dp, dl, d2, vl, vv, Ps, rfl, hl, hv, al, a2, TP, hPk, hok, k⟩ := h
  refine ⟨_, (pss_cons (ps_expr (pe_cl C_want_label hr (by decide) (passes_call (takes_of rfl rfl rfl rfl) (fun _ _ _ _ h => h)) rfl (pa_cons (pv 1) pa_nil)))
      (pss_cons (ps_if (pt_not (pt_val (pe_cl C_is_any_value hr (by decide) pass0 rfl (pa_cons (pv 2) pa_nil)))) (pss_one (ps_raise rfl (takes_of rfl rfl rfl rfl) (pmk_x Z.IK.T Z.IK.F.ini Z.IK.F.typ XI (hr.mono (by decide)) rfl T.g_InvalidKey (pa_cons (pv 2) pa_nil)))) pss_nil)
      (pss_cons (ps_asg (pe_tup (pa_cons (pe_dget2 (hu_of hr) (pe_fldK (K := K) (pv 0)) (pe_cl C_value_text hr (by decide) pass0 rfl (pa_cons (pv 2) pa_nil)) pe_dnewK ⟨rfl, rfl, rfl, rfl⟩) (pa_cons (pe_lst pa_nil) pa_nil))) (pg_tup rfl (pgs_cons (pg_name (i := 3) sc_IndexTree_entries_at.nd rfl (Or.inr rfl)) (pgs_cons (pg_name (i := 4) sc_IndexTree_entries_at.nd rfl (Or.inl rfl)) pgs_nil))))
      (pss_cons (ps_set (i := 5) sc_IndexTree_entries_at.nd rfl (Or.inl rfl) (pe_listG (pgen_meth0 (pv 1) Y.cL Y.below.1 FB (hr.mono (by decide)) HB .nil) passL (fun _ _ _ h => h.elim) hr rfl T.b_list (by decide +kernel)))
      (pss_cons (ps_for (passes_of rfl) rfl (pi_listK (K := K) (pe_cl C_in_value_order hr (by decide) pass0 rfl (pa_cons (pe_callTy (T := "list") (call_list_dK rfl) (by rfl) T.b_list (by decide +kernel) (pa_cons (pv 3) pa_nil)) pa_nil))) (pg_name (i := 6) sc_IndexTree_entries_at.nd rfl (Or.inr rfl))
        (pss_one (ps_expr (pe_bmK (K := K) PySem.F.plainAttrs_list PySem.F.slot_list_extend PySem.F.type_list_extend mt_extend (pv 4) (pa_cons (pe_lc (own := [("lower", 7)]) rfl sc_IndexTree_entries_at.nd (pi_listK (K := K) (pv 5)) (blkOk_by (own := [("lower", 7)]) (N := n_IndexTree_entries_at) (sc := defScope s_IndexTree_entries_at) (by decide +kernel)) (fun _ _ _ _ _ => (pg_name (i := 7) sc_IndexTree_entries_at.nd rfl (Or.inl rfl))) (fun _ _ _ _ _ => pts_one (pt_cmp (pc_din (hu_of hr) (pe_callTy (T := "str") (strO ⟨Y.lstr.1.at_, Y.lstr.1.fn⟩ FS (hr.mono (by decide))) (by rfl) T.b_str (by decide +kernel) (pa_cons (pv 7) pa_nil)) (pe_dget (hu_of hr) (pv 3) (pv 6) (fun _ _ => rfl))))) (fun _ _ _ _ _ => (pe_tup (pa_cons (pv 6) (pa_cons (pv 7) pa_nil))))) pa_nil)))))
      (pss_one (ps_ret (pv 4)))))))), ?_⟩
  refine ⟨_, rfl, dl, vl, rfl, hl, al, fun il H1 e1 => ?_, fun il cls dx H' r => ?_⟩
  case refine_2 =>
    unfold ent2Err at k
    rw [if_pos il] at k
    exact k cls dx H' r
  refine ⟨_, rfl, d2, vv, rfl, Rp.same e1 _ _ hv, a2, fun H2 e2 => ⟨_, rfl, ?_⟩⟩
  have e02 := e1.trans e2
  cases iA : isAny d2 with
  | false =>
    unfold ent2Err at k
    rw [if_neg (by rw [il]; exact Bool.noConfusion), if_pos iA] at k
    exact iteT ⟨_, rfl, _, rfl, fun H3 dd t1 e3 h1 h2 => k _ _ _ ⟨"value", dd, t1, vv, rfl, rfl, h1, h2, Rp.same (e02.trans e3) d2 vv hv, e02.trans e3⟩⟩
  | true =>
  have hne : ent2Err dl d2 = none := by
    unfold ent2Err
    rw [if_neg (by rw [il]; exact Bool.noConfusion), if_neg (by rw [iA]; exact Bool.noConfusion)]
  rw [hne] at k
  obtain ⟨ov, rfl, ms, rfl, hm⟩ := hok hne
  have k := k ms rfl
  refine iteF ?_
  have T2 := TP.same e02
  obtain ⟨dx, dvv, hx⟩ := T2.ins
  refine ⟨_, rfl, x, CT K, dx, _, _, rfl, hx, Y.cT, Y.aP, rfl, dp, rfl, .inl ⟨_, .of T2.atP⟩, _, rfl, _, vv, rfl, Rp.same e02 _ _ hv, a2, iA, fun H3 e3 n1 hn1 => ⟨_, DGet.k (k := .inr (vtV vv)) (Same.new hn1 _ _ (e3 _ _ T2.atP)), ?_⟩⟩
  have e03 := (e02.trans e3).trans (Same.new (u := .dK []) hn1)
  obtain ⟨pl, hpl, hpl2, hpl3⟩ := place_get (t := vtV vv) (TP.same e03) upd_same
  rw [hpl]
  have nn1 : upd H3 n1 (.dK []) n1 = some (.dK []) := upd_same
  generalize upd H3 n1 (.dK []) = H4 at e03 hpl2 hpl3 nn1
  refine ⟨szl (Nat.zero_le _), fun D hD => ⟨szl (Nat.le_of_ble_eq_true rfl), fun tp htp => ?_⟩⟩
  have e5 : Same H4 (upd (upd H4 D (.lst [])) tp (.tup [.ref pl, .ref D])) := (Same.new hD).trans (Same.new htp)
  have hD5 : upd (upd H4 D (.lst [])) tp (.tup [.ref pl, .ref D]) D = some (.lst []) := Same.new htp _ _ upd_same
  have ht5 : upd (upd H4 D (.lst [])) tp (.tup [.ref pl, .ref D]) tp = some (.tup [.ref pl, .ref D]) := upd_same
  generalize upd (upd H4 D (.lst [])) tp (.tup [.ref pl, .ref D]) = H5 at e5 hD5 ht5
  refine ⟨tp, _, rfl, .inl (.inl ht5), rfl, _, _, rfl, _, _, rfl, rfl, ?_⟩
  have e05 := e03.trans e5
  have nDH : H D = none := e03.free hD
  have hl5 := Rp.same e05 _ _ hl
  obtain ⟨ai, dxl, tl, rfl, hal2, hal3⟩ := (show ∃ a' dx t, vl = .ref a' ∧ H5 a' = some (.ins (CL K) dx [("own_marks", .ref t)]) ∧ SqT K H5 t (ms.map V.str) by
    unfold Rp at hl5
    exact hl5)
  refine ⟨_, rfl, ai, dxl, _, rfl, hal2, rfl, ai, ms, rfl, hl5, hm, fun H6 lows e6 hlow lw hlw => ?_⟩
  have e56 := e6.trans (Same.new (u := .lst lows) hlw)
  have hlw7 : upd H6 lw (.lst lows) lw = some (.lst lows) := upd_same
  have hlow7 := RpA.same (Same.new (u := .lst lows) hlw) _ _ hlow
  generalize upd H6 lw (.lst lows) = H7 at e56 hlw7 hlow7
  have hL60 : (inner Ps (vtV vv)).length < 60 ∧ ∀ q ∈ inner Ps (vtV vv), kV q.1 ∈ menuK := by
    rcases inner_mem (Ps := Ps) (t := vtV vv) with h | ⟨p, hp, _, h⟩
    · rw [h]
      exact ⟨by decide, fun q hq => by cases hq⟩
    · rw [h]
      exact hPk p hp
  generalize inner Ps (vtV vv) = L at hpl2 hpl3 hL60 k
  have hpl7 := e56 _ _ (e5 _ _ hpl2)
  refine ⟨_, rfl, pl, _, rfl, hpl7, fun kl hkl => ?_⟩
  have ekk : (dI L).map (fun kv => kV kv.1) = keysOf L := by
    unfold dI keysOf
    rw [List.map_map]
    rfl
  rw [ekk]
  have e78 := Same.new (u := .lst (keysOf L)) hkl
  refine ⟨kl, keysOf L, rfl, SqL.of upd_same, fun v hv => ?_, by unfold keysOf; rw [List.length_map]; omega, fun H8 kr ks e8 hkr hkr2 hpm hpw => ?_⟩
  · obtain ⟨q, hq, rfl⟩ := List.mem_map.mp hv
    exact menuK_ok _ (hL60.2 q hq)
  have e57 := e56.trans (e78.trans e8)
  have e58 := e5.trans e57
  have hD8 := e57 _ _ hD5
  have e08 := e05.trans e57
  have hlw8 := (e78.trans e8) _ _ hlw7
  have hlow8 := RpA.same (e78.trans e8) _ _ hlow7
  have hpl8 := e58 _ _ hpl2
  have neD : ∀ {b : Addr} {o : HO}, H4 b = some o → b ≠ D := fun h => ne_of_none h hD
  have neD5 : ∀ {b : Addr}, H5 b = none → b ≠ D := fun h z => by rw [z, hD5] at h; cases h
  have nkr : kr ≠ D := fun z => by
    have := (e56.trans e78) _ _ hD5
    rw [← z, hkr] at this
    cases this
  have nlw : lw ≠ D := fun z => by
    have := e6 _ _ hD5
    rw [← z, hlw] at this
    cases this
  have hks : ∀ v ∈ ks, v ∈ keysOf L := fun v hv => hpm.mem_iff.mp hv
  have hkn : ks.length ≤ 60 := by
    rw [hpm.length_eq]
    unfold keysOf
    rw [List.length_map]
    omega
  refine ⟨kr, rfl, ⟨_, SqL.of hkr2⟩, forJ ks.length (fun i σ H' => SB D H8 H' ∧ (∃ ys, H' D = some (.lst ys) ∧ RpA K (CL K) H' (ents L ms (ks.take i)) ys) ∧ ∃ y z, σ = [some (.ref x), some (.ref ai), some vv, some (.ref pl), some (.ref D), some (.ref lw), y, z]) ?_ ?_ ?_ ?_ ?_⟩
  · exact ⟨SB.refl _ _, ⟨[], hD8, RpA.nil⟩, none, none, rfl⟩
  · exact fun i σ H' hi h => ⟨ks, _, SqL.of (h.1 _ _ hkr2 nkr), List.getElem?_eq_getElem hi⟩
  · exact fun σ H' h => ⟨ks, SqL.of (h.1 _ _ hkr2 nkr), Nat.le_refl _⟩
  · rintro i v σ H9 H10 hi ⟨b9, ⟨ys, hD9, hr9⟩, y, z, rfl⟩ ⟨rfl, hv⟩
    have hv := hv ks (SqL.of (b9 _ _ hkr2 nkr))
    have hvm := List.mem_of_getElem? hv
    obtain ⟨kk, bk, hvk, hval, hmem⟩ := labs_get (hks v hvm)
    have hbk := hpl3 _ hmem
    have ov2 : okV v = true := by
      obtain ⟨q, hq, rfl⟩ := List.mem_map.mp (hks v hvm)
      exact menuK_ok _ (hL60.2 q hq)
    have b89 : ∀ {b : Addr} {o : HO}, H4 b = some o → H10 b = some o := fun h => b9 _ _ (e58 _ _ h) (neD h)
    have k9 := b9.kt hD8
    have hbl := belows_len hm
    have hll : lows.length = (belows ms).length := by rw [hlow8.len, List.length_map]
    have nDs : ∀ i d, i < lows.length → (((belows ms)[i]?).bind fun l => if lt l ∈ labsAt L v then some (entD v l) else none) = some d → noL d = true := fun i d _ e => by
      cases h : (belows ms)[i]? with
      | none =>
        rw [h] at e
        cases e
      | some l =>
        rw [h, Option.bind_some] at e
        split at e
        · cases e
          show (noL (dOf v) && (true && true)) = true
          rw [okV_noL ov2]
          rfl
        · cases e
    refine ⟨_, rfl, Or.inl ⟨rfl, _, SqL.of hD9⟩, _, rfl, lw, rfl, ⟨_, SqL.of (b9 _ _ hlw8 nlw)⟩, fun D2 nD2 => lcL (K := K) (C := CL K) (fun i => ((belows ms)[i]?).bind fun l => if lt l ∈ labsAt L v then some (entD v l) else none) (fmSame H10) nD2 (by omega) (fun Hc h => SqL.of (h _ _ (b9 _ _ hlw8 nlw))) nDs (fun j x' Hc R S hx hM hR hS => ?_) (fun Hc zs hM hD2 hz => ?_) (fun Hc _ => Same.refl Hc)⟩
    · obtain ⟨d, h1, h2⟩ := hlow8.get hx
      rw [List.getElem?_map, Option.map_eq_some_iff] at h1
      obtain ⟨l, hl, rfl⟩ := h1
      have h3 := Rp.same hM _ _ (Rp.kt k9 _ _ rfl h2)
      obtain ⟨ax, dxx, tx, rfl, hax2, hax3⟩ := (show ∃ a' dx t, x' = .ref a' ∧ Hc a' = some (.ins (CL K) dx [("own_marks", .ref t)]) ∧ SqT K Hc t (l.map V.str) by
        unfold Rp at h3
        exact h3)
      have hlk := belows_ok hm (List.mem_of_getElem? hl)
      have hS' : ∀ Hd, Same Hc Hd → DGet Hd pl v (some (.ref bk)) := fun Hd ed => by
        have := DGet.k (k := kk) (ed _ _ (hM _ _ (b89 hpl2)))
        rw [← hvk, hval] at this
        exact this
      refine ⟨rfl, _, rfl, ax, dxx, _, rfl, hax2, ax, l, rfl, h3, hlk, fun Hd ed => ⟨_, rfl, _, rfl, _, rfl, pl, .ref bk, rfl, hS' Hd ed, bk, _, rfl, DGet.k (k := .inr (lt l)) (ed _ _ (hM _ _ (b89 hbk))), _, rfl, ?_⟩⟩
      by_cases hs : lt l ∈ labsAt L v
      · rw [valS_yes hs]
        refine iteT ⟨_, rfl, _, rfl, szl (Nat.le_of_ble_eq_true rfl), fun q nq => ?_⟩
        have eq := Same.new (u := .tup [v, .ref ax]) nq
        refine hS _ _ (entD v l) (ed.trans eq) ?_ ?_
        · show ((belows ms)[j]?).bind _ = _
          rw [hl, Option.bind_some, if_pos hs]
        · exact Rp.tupI (.inl (.inl upd_same)) (RpA.cons (okV_rp ov2) (RpA.one (Rp.same (ed.trans eq) (.lab l) _ h3)))
      · rw [valS_no hs]
        refine iteF (hR _ ed ?_)
        show ((belows ms)[j]?).bind _ = _
        rw [hl, Option.bind_some, if_neg hs]
    · rw [hll, fm_list, fm_if] at hz
      have lz : zs.length ≤ 1280 := by
        rw [hz.len, List.length_map]
        exact Nat.le_trans (List.length_filter_le ..) hbl
      have ly : ys.length ≤ 60 * 1280 := by
        rw [hr9.len]
        have h1 : ∀ l : List V, (ents L ms l).length ≤ l.length * 1280 := fun l => by
          unfold ents
          induction l with
          | nil => exact Nat.zero_le _
          | cons u l ih =>
            rw [List.flatMap_cons, List.length_append, List.length_map, List.length_cons, Nat.succ_mul]
            have := List.length_filter_le (fun l => decide (lt l ∈ labsAt L u)) (belows ms)
            omega
        have := h1 (ks.take i)
        have h2 : (ks.take i).length ≤ 60 := Nat.le_trans (List.length_take_le' ..) hkn
        exact Nat.le_trans this (Nat.mul_le_mul_right _ h2)
      have hD10 := hM _ _ hD9
      refine ⟨D, D2, _, _, rfl, rfl, hD10, hD2, by rw [sizeLine_eq]; omega, (b9.trans (SB.of hM)).trans SB.upd, ⟨_, upd_same, ?_⟩, _, _, rfl⟩
      rw [ents_snoc hv]
      have hk : Kt Hc (upd Hc D (.lst (ys ++ zs))) := Kt.upd fun o eo so => by
        rw [hD10] at eo
        cases eo
        exact so
      refine RpA.append (RpA.kt hk _ _ ?_ (RpA.same hM _ _ hr9)) (RpA.kt hk _ _ ?_ hz)
      · refine noLA_of fun d hd => ?_
        obtain ⟨u, hu, hd⟩ := List.mem_flatMap.mp hd
        obtain ⟨l, _, rfl⟩ := List.mem_map.mp hd
        obtain ⟨q, hq, rfl⟩ := List.mem_map.mp (hks u (List.mem_of_mem_take hu))
        show (noL (dOf (kV q.1)) && (true && true)) = true
        rw [okV_noL (menuK_ok _ (hL60.2 q hq))]
        rfl
      · refine noLA_of fun d hd => ?_
        obtain ⟨l, _, rfl⟩ := List.mem_map.mp hd
        show (noL (dOf v) && (true && true)) = true
        rw [okV_noL ov2]
        rfl
  · rintro σ H9 ⟨b9, ⟨ys, hD9, hr9⟩, y, z, rfl⟩
    rw [List.take_length] at hr9
    exact ⟨_, rfl, k H9 D ks ys (SB.same e08 b9 nDH) nDH hD9 hpm hpw hr9⟩
end
end Abv
set_option Elab.async false
set_option linter.all false
set_option maxRecDepth 100000
set_option maxHeartbeats 4000000
/-! ## A list comprehension with three clauses -/
namespace Abv
open PySem PySem.Spec PyProof.Rows L2
/-- the turn of a clause that is not the last -/
def OutEq (e : Expr) (d : Nat) (p0 : Pos) (t : Expr) (ifs : List Expr) (nx : Expr) : Prop := ∀ it acc env, compTurn e d it acc env = (do
  standAt p0
  match ← pyNext it with
  | none => pure (.done .next)
  | some v =>
    letOwnedTupleGo t it v
    assign t env v
    let mut ok := true
    for c in ifs do
      if ok then ok ← isTrue c env (eval c env)
    if ok then
      let x ← eval nx env
      standAt nx.pos
      let x ← foldedSetIterable nx env x
      let _ ← runOwn (.compStart e (d + 1) (← holding [x] (pyIter x)) acc env) env
    again (.compLoop e d it acc env))
/-- the turn of the last clause -/
def InEq (e : Expr) (d : Nat) (p0 : Pos) (t : Expr) (ifs : List Expr) (elt : Expr) : Prop := ∀ it acc env, compTurn e d it acc env = (do
  standAt p0
  match ← pyNext it with
  | none => pure (.done .next)
  | some v =>
    letOwnedTupleGo t it v
    assign t env v
    let mut ok := true
    for c in ifs do
      if ok then ok ← isTrue c env (eval c env)
    if ok then
      (do let _ ← call (.builtin "list.append") [acc, ← eval elt env])
    again (.compLoop e d it acc env))
abbrev Lc3 (elt t0 i0 t1 i1 t2 i2 : Expr) (f0 f1 f2 : List Expr) (sc : Scope) (pos : Pos) : Expr := .ListComp elt [⟨t0, i0, f0, 0⟩, ⟨t1, i1, f1, 0⟩, ⟨t2, i2, f2, 0⟩] sc pos
theorem out0 (elt t0 i0 t1 i1 t2 i2 : Expr) (f0 f1 f2 : List Expr) (sc : Scope) (pos : Pos) : OutEq (Lc3 elt t0 i0 t1 i1 t2 i2 f0 f1 f2 sc pos) 0 i0.pos t0 f0 i1 := fun _ _ _ => rfl
theorem out1 (elt t0 i0 t1 i1 t2 i2 : Expr) (f0 f1 f2 : List Expr) (sc : Scope) (pos : Pos) : OutEq (Lc3 elt t0 i0 t1 i1 t2 i2 f0 f1 f2 sc pos) 1 i1.pos t1 f1 i2 := fun _ _ _ => rfl
theorem in2 (elt t0 i0 t1 i1 t2 i2 : Expr) (f0 f1 f2 : List Expr) (sc : Scope) (pos : Pos) : InEq (Lc3 elt t0 i0 t1 i1 t2 i2 f0 f1 f2 sc pos) 2 i2.pos t2 f2 elt := fun _ _ _ => rfl
section
variable {prog : Program} {w : World} {A : Around} {R : Result → Shared → Prop} {s : Shared} {e t nx elt : Expr} {d : Nat} {p0 : Pos} {ifs : List Expr} {it acc : Value} {env : Env}
theorem loopOut (q : OutEq e d p0 t ifs nx) (hU : A.under (.compLoop e d it acc env) = A) (hD : (model prog w).den (.compLoop e d it acc env) = (compTurn e d it acc env).onRaise (fun x => do noteFrame x env; theTreesLotGoes x)) (hs : ∀ x, foldedSetIterable nx env x = pure x) (I : Nat → Shared → Prop)
    (turn : ∀ n s, I n s → wpAny (model prog w) A (pyNext it) (fun r s₁ => match r with
      | none => R (.ok .next) s₁
      | some v => wpAny (model prog w) A (letOwnedTupleGo t it v) (fun _ s2 => wpAny (model prog w) A (assign t env v) (fun _ s3 =>
          wpAny (model prog w) A (forIn ifs true fun c r => if r = true then do let ok ← isTrue c env (eval c env); pure (ForInStep.yield ok) else pure (ForInStep.yield r)) (fun ok s4 =>
            if ok = true then wpAny (model prog w) A (eval nx env) (fun x s5 => wpAny (model prog w) A (pyIter x) (fun it1 s6 =>
              codeAny (model prog w) A (.compStart e (d + 1) it1 acc env) (fun r s' => match r with
                | .ok _ => ∃ m, m < n ∧ I m s'
                | .error _ => False) s6) (fun _ _ => False) s5) (fun _ _ => False) s4
            else ∃ m, m < n ∧ I m s4) (fun _ _ => False) s3) (fun _ _ => False) s2) (fun _ _ => False) s₁) (fun _ _ => False) s)
    (n : Nat) (h : I n s) : codeAny (model prog w) A (.compLoop e d it acc env) R s := by
  refine codeAny_loop rfl I (fun n s hI => ?_) n h
  rw [hU, hD]
  refine wpAny_noted ?_
  rw [q]
  refine wpAny_bind (wpAny_standAt (wpAny_bind (wpAny_mono (turn n s hI) (fun r s1 h1 => ?_) fun _ _ z => z.elim)))
  cases r with
  | none => exact wpAny_pure h1
  | some v =>
    refine wpAny_bind (wpAny_mono h1 (fun _ s2 h2 => ?_) fun _ _ z => z.elim)
    refine wpAny_bind (wpAny_mono h2 (fun _ s3 h3 => wpAny_bind (wpAny_mono h3 (fun ok s4 h4 => ?_) fun _ _ z => z.elim)) fun _ _ z => z.elim)
    cases ok with
    | false => exact wpAny_pure ⟨rfl, h4⟩
    | true =>
      refine wpAny_bind (wpAny_mono h4 (fun x s5 h5 => ?_) fun _ _ z => z.elim)
      refine wpAny_bind (wpAny_standAt (wpAny_bind (wpAny_of_eq (hs x) (wpAny_bind (wpAny_holding (wpAny_mono h5 (fun it1 s6 h6 => ?_) fun _ _ z => z.elim))))))
      refine wpAny_bind (wpAny_runOwn ?_)
      rw [Around.mark_none]
      refine codeAny_mono h6 fun r s' hr => ?_
      cases r with
      | ok f =>
        first
          | exact wpAny_pure ⟨rfl, hr⟩
          | exact wpAny_bind (wpAny_pure (wpAny_pure ⟨rfl, hr⟩))
      | error e => exact hr.elim
theorem loopIn (q : InEq e d p0 t ifs elt) (hU : A.under (.compLoop e d it acc env) = A) (hD : (model prog w).den (.compLoop e d it acc env) = (compTurn e d it acc env).onRaise (fun x => do noteFrame x env; theTreesLotGoes x)) (I : Nat → Shared → Prop)
    (turn : ∀ n s, I n s → wpAny (model prog w) A (pyNext it) (fun r s₁ => match r with
      | none => R (.ok .next) s₁
      | some v => wpAny (model prog w) A (letOwnedTupleGo t it v) (fun _ s2 => wpAny (model prog w) A (assign t env v) (fun _ s3 =>
          wpAny (model prog w) A (forIn ifs true fun c r => if r = true then do let ok ← isTrue c env (eval c env); pure (ForInStep.yield ok) else pure (ForInStep.yield r)) (fun ok s4 =>
            if ok = true then wpAny (model prog w) A (eval elt env) (fun x s5 => wpAny (model prog w) A (call (.builtin "list.append") [acc, x]) (fun _ s6 => ∃ m, m < n ∧ I m s6) (fun _ _ => False) s5) (fun _ _ => False) s4
            else ∃ m, m < n ∧ I m s4) (fun _ _ => False) s3) (fun _ _ => False) s2) (fun _ _ => False) s₁) (fun _ _ => False) s)
    (n : Nat) (h : I n s) : codeAny (model prog w) A (.compLoop e d it acc env) R s := by
  refine codeAny_loop rfl I (fun n s hI => ?_) n h
  rw [hU, hD]
  refine wpAny_noted ?_
  rw [q]
  refine wpAny_bind (wpAny_standAt (wpAny_bind (wpAny_mono (turn n s hI) (fun r s1 h1 => ?_) fun _ _ z => z.elim)))
  cases r with
  | none => exact wpAny_pure h1
  | some v =>
    refine wpAny_bind (wpAny_mono h1 (fun _ s2 h2 => ?_) fun _ _ z => z.elim)
    refine wpAny_bind (wpAny_mono h2 (fun _ s3 h3 => wpAny_bind (wpAny_mono h3 (fun ok s4 h4 => ?_) fun _ _ z => z.elim)) fun _ _ z => z.elim)
    cases ok with
    | false => exact wpAny_pure ⟨rfl, h4⟩
    | true => exact wpAny_bind (wpAny_bind (wpAny_mono h4 (fun x s5 h5 => wpAny_bind (wpAny_mono h5 (fun _ s6 h6 => wpAny_pure (wpAny_pure ⟨rfl, h6⟩)) fun _ _ z => z.elim)) fun _ _ z => z.elim))
end
section
variable {prog : Program} {w : World} {A : Around} {R : Result → Shared → Prop} {s : Shared} {elt t0 i0 t1 i1 t2 i2 : Expr} {f0 f1 f2 : List Expr} {sc : Scope} {pos : Pos} {it acc : Value} {env : Env}
theorem start1 (h0 : codeAny (model prog w) A (.compLoop (Lc3 elt t0 i0 t1 i1 t2 i2 f0 f1 f2 sc pos) 1 it acc env) R s)
    (h : wpAny (model prog w) A (pyIter it) (fun it' s' => codeAny (model prog w) A (.compLoop (Lc3 elt t0 i0 t1 i1 t2 i2 f0 f1 f2 sc pos) 1 it' acc env) R s') (notedBy (model prog w) A env fun x s' => R (.error x) s') s) :
    codeAny (model prog w) A (.compStart (Lc3 elt t0 i0 t1 i1 t2 i2 f0 f1 f2 sc pos) 1 it acc env) R s := by
  refine codeAny_of_tree ?_
  show wpAny _ _ ((compStart (Lc3 elt t0 i0 t1 i1 t2 i2 f0 f1 f2 sc pos) 1 it acc env).onRaise (fun x => do noteFrame x env; standAt theWindowsPlace)) _ _ s
  refine wpAny_notedAt ?_
  unfold compStart
  show wpAny _ _ (ask >>= _) _ _ s
  refine wpAny_bind (wpAny_askSetting (wpAny_ite ?_))
  split
  · first
      | exact wpAny_bind (wpAny_pure (wpAny_pure (And.intro rfl h0)))
      | exact wpAny_pure (And.intro rfl h0)
  · first
      | exact wpAny_bind (wpAny_rule (wpAny_bind (wpAny_standAt (wpAny_bind (wpAny_mono h (fun it' s' h' => wpAny_pure (And.intro rfl h')) fun _ _ x => x)))))
      | (refine wpAny_bind (wpAny_rule ?_); show wpAny _ _ (standAt i1.pos >>= _) _ _ s; exact wpAny_bind (wpAny_standAt (wpAny_bind (wpAny_mono h (fun it' s' h' => wpAny_pure (And.intro rfl h')) fun _ _ x => x))))
theorem start2 (h0 : codeAny (model prog w) A (.compLoop (Lc3 elt t0 i0 t1 i1 t2 i2 f0 f1 f2 sc pos) 2 it acc env) R s)
    (h : wpAny (model prog w) A (pyIter it) (fun it' s' => codeAny (model prog w) A (.compLoop (Lc3 elt t0 i0 t1 i1 t2 i2 f0 f1 f2 sc pos) 2 it' acc env) R s') (notedBy (model prog w) A env fun x s' => R (.error x) s') s) :
    codeAny (model prog w) A (.compStart (Lc3 elt t0 i0 t1 i1 t2 i2 f0 f1 f2 sc pos) 2 it acc env) R s := by
  refine codeAny_of_tree ?_
  show wpAny _ _ ((compStart (Lc3 elt t0 i0 t1 i1 t2 i2 f0 f1 f2 sc pos) 2 it acc env).onRaise (fun x => do noteFrame x env; standAt theWindowsPlace)) _ _ s
  refine wpAny_notedAt ?_
  unfold compStart
  show wpAny _ _ (ask >>= _) _ _ s
  refine wpAny_bind (wpAny_askSetting (wpAny_ite ?_))
  split
  · first
      | exact wpAny_bind (wpAny_pure (wpAny_pure (And.intro rfl h0)))
      | exact wpAny_pure (And.intro rfl h0)
  · first
      | exact wpAny_bind (wpAny_rule (wpAny_bind (wpAny_standAt (wpAny_bind (wpAny_mono h (fun it' s' h' => wpAny_pure (And.intro rfl h')) fun _ _ x => x)))))
      | (refine wpAny_bind (wpAny_rule ?_); show wpAny _ _ (standAt i2.pos >>= _) _ _ s; exact wpAny_bind (wpAny_standAt (wpAny_bind (wpAny_mono h (fun it' s' h' => wpAny_pure (And.intro rfl h')) fun _ _ x => x))))
end
/-- the inner clauses, from the source of the first of them on -/
def InnP (X : Cx) (e : Expr) (d : Nat) (D : Addr) (src : Expr) (vs1 : List Nat) (wk : L2.St → Hp → (Hp → Prop) → Prop) : Prop :=
  ∀ (pins : List (Addr × Obj)) (σ : L2.St) (H : Hp) (s : Shared) (Nx : Hp → Prop), Inv X pins σ H s → wk σ H Nx →
    wpAny (model X.prog X.w) X.A (eval src X.env) (fun x s4 => wpAny (model X.prog X.w) X.A (pyIter x) (fun it1 s5 => codeAny (model X.prog X.w) X.A (.compStart e d it1 (.ref D) X.env) (fun r s' => match r with
      | .ok _ => ∃ σ' H', Inv X pins σ' H' s' ∧ σ'.length = σ.length ∧ (∀ (j : Nat) v, (wipe σ vs1)[j]? = some (some v) → σ'[j]? = some (some v)) ∧ Nx H'
      | .error _ => False) s5) (fun _ _ => False) s4) (fun _ _ => False) s
/-- a clause's loop; tl: what its turns do -/
def wkLoop (wi : TI) (g : TG) (tt : TT) (tl : L2.St → Hp → (Hp → Prop) → Prop) (vs1 : List Nat) : L2.St → Hp → (Hp → Prop) → Prop := fun σ H Nx => wi σ H fun J H4 => ∃ W : Nat → Nat → Hp → Prop, (∃ m, W 0 m H4) ∧ ∀ j k H, W j k H →
  (J.stop j H ∧ Nx H) ∨ (J.go j H ∧ ∃ Nx1 : Hp → Prop, (∀ H', Nx1 H' → ∃ k', k' < k ∧ W (j + 1) k' H') ∧ ∀ x H', J.yld j H x H' → g x (wipe σ vs1) H' fun σ3 H5 => wipe σ3 vs1 = wipe σ vs1 ∧ tt σ3 H5 fun b H6 => if b = true then tl σ3 H6 Nx1 else Nx1 H6)
/-- the element, put behind the list D -/
def wkElt (te : TE) (D : Addr) : L2.St → Hp → (Hp → Prop) → Prop := fun σ H Nx => te σ H fun y H7 => ∃ acc, H7 D = some (.lst acc) ∧ acc.length < sizeLine ∧ Nx (upd H7 D (.lst (acc ++ [y])))
section
variable {X : Cx} {e src tg nx elt : Expr} {ifs : List Expr} {p0 : Pos} {d : Nat} {D : Addr} {vs1 vs2 : List Nat} {wi : TI} {g : TG} {tt : TT} {te : TE} {tl : L2.St → Hp → (Hp → Prop) → Prop}
/-- a clause, by what a turn's tail does -/
theorem innG (hc : X.calm = true) (hxe : X.xe = fun _ _ => False) (hi : PI X tg src wi) (hg : PG X tg g) (ht : PTs X ifs tt) 
    (hloop : ∀ (it : Value) (R : Result → Shared → Prop) (I : Nat → Shared → Prop) (n : Nat) (s : Shared), (∀ n s, I n s → wpAny (model X.prog X.w) X.A (pyNext it) (fun r s₁ => match r with
      | none => R (.ok .next) s₁
      | some v => wpAny (model X.prog X.w) X.A (letOwnedTupleGo tg it v) (fun _ s2 => wpAny (model X.prog X.w) X.A (assign tg X.env v) (fun _ s3 =>
          wpAny (model X.prog X.w) X.A (forIn ifs true fun c r => if r = true then do let ok ← isTrue c X.env (eval c X.env); pure (ForInStep.yield ok) else pure (ForInStep.yield r)) (fun ok s4 =>
            if ok = true then ∃ (pins : List (Addr × Obj)) (σ : L2.St) (H : Hp) (Nx : Hp → Prop), Inv X pins σ H s4 ∧ tl σ H Nx ∧ ∀ σ' H' s', Inv X pins σ' H' s' → σ'.length = σ.length → (∀ (j : Nat) v, (wipe σ vs1)[j]? = some (some v) → σ'[j]? = some (some v)) → Nx H' → ∃ m, m < n ∧ I m s'
            else ∃ m, m < n ∧ I m s4) (fun _ _ => False) s3) (fun _ _ => False) s2) (fun _ _ => False) s₁) (fun _ _ => False) s) →
      I n s → codeAny (model X.prog X.w) X.A (.compLoop e d it (.ref D) X.env) R s)
    (hst : ∀ (it : Value) (R : Result → Shared → Prop) (s : Shared), codeAny (model X.prog X.w) X.A (.compLoop e d it (.ref D) X.env) R s → wpAny (model X.prog X.w) X.A (pyIter it) (fun it' s' => codeAny (model X.prog X.w) X.A (.compLoop e d it' (.ref D) X.env) R s') (notedBy (model X.prog X.w) X.A X.env fun x s' => R (.error x) s') s →
      codeAny (model X.prog X.w) X.A (.compStart e d it (.ref D) X.env) R s) :
    InnP X e d D src vs1 (wkLoop wi g tt tl vs1) := by
  intro pins σ H s Nx I hw
  have h0 := hi.run pins s σ H _ I hw
  rw [hxe] at h0
  refine wpAny_mono h0 (fun xv s4 hx => wpAny_mono hx (fun itv s5 h5 => ?_) fun _ _ z => z) fun _ _ z => z
  obtain ⟨it1, fp1, tn1, J1, H11, rfl, I11, T1, st11, f11, W1, ⟨m1, w1⟩, turn1⟩ := h5
  have stat1 : ∀ {H' : Hp}, (∀ b ∈ fp1, H' b = none) → ∀ b ∈ fp1, FpOk X pins H' b := fun hn b hb => ⟨hn b hb, (f11 b hb).2⟩
  have loop1 : codeAny (model X.prog X.w) X.A (.compLoop e d (.ref it1) (.ref D) X.env) (fun r s' => match r with
      | .ok _ => ∃ σ' H', Inv X pins σ' H' s' ∧ σ'.length = σ.length ∧ (∀ (j : Nat) v, (wipe σ vs1)[j]? = some (some v) → σ'[j]? = some (some v)) ∧ Nx H'
      | .error _ => False) s5 := by
    refine hloop (.ref it1) _ (fun k s' => ∃ j H', Inv X pins (wipe σ vs1) H' s' ∧ tn1 j s'.heap ∧ (∀ b ∈ fp1, H' b = none) ∧ W1 j k H') m1 s5 ?_ ⟨0, H11, I11.weak (wipe_length _ _) (fun j v e => (wipe_some e).1), st11, fun b hb => (f11 b hb).1, w1⟩
    rintro k s12 ⟨j, H12, I12, st12, n12, w12⟩
    rcases turn1 j k H12 w12 with ⟨stop1, nx1⟩ | ⟨go1, Nx1, hNx1, step1⟩
    · refine wpAny_mono (T1.done X rfl rfl rfl hc j pins s12 (wipe σ vs1) H12 (fun _ _ => False) I12 (stat1 n12) st12 stop1) (fun r s13 hr => ?_) fun _ _ z => z
      obtain ⟨rfl, I13⟩ := hr
      exact ⟨_, H12, I13, wipe_length _ _, fun _ _ e => e, nx1⟩
    · refine wpAny_mono (T1.item X rfl rfl rfl hc j pins s12 (wipe σ vs1) H12 (fun _ _ => False) I12 (stat1 n12) st12 go1) (fun r s13 hr => ?_) fun _ _ z => z
      obtain ⟨u1, rfl, h13⟩ := hr
      refine wpAny_mono h13 (fun _ s14 h14 => ?_) fun _ _ z => z
      obtain ⟨x1, H14, I14, r14, y14, st14, n14⟩ := h14
      have I14' := I14.pinned (stat1 n14) (T1.obj _ _ st14)
      have ha := hg.run _ s14 (wipe σ vs1) H14 x1 u1 _ I14' r14 (step1 x1 H14 y14)
      rw [hxe] at ha
      refine wpAny_mono ha (fun _ s15 h15 => ?_) fun _ _ z => z
      obtain ⟨σ15, H15, I15, hw15, q15⟩ := h15
      have hb := ht.run _ s15 σ15 H15 _ I15 q15
      rw [hxe] at hb
      refine wpAny_mono hb (fun b1 s16 h16 => ?_) fun _ _ z => z
      obtain ⟨H16, I16, q16⟩ := h16
      have fin1 : ∀ (σ' : L2.St) (H' : Hp) (s' : Shared), Inv X (pins ++ pinsAt fp1 s14.heap) σ' H' s' → (wipe σ vs1).length = σ'.length → (∀ (j : Nat) v, (wipe σ vs1)[j]? = some (some v) → σ'[j]? = some (some v)) → Nx1 H' →
          ∃ m, m < k ∧ ∃ j H', Inv X pins (wipe σ vs1) H' s' ∧ tn1 j s'.heap ∧ (∀ b ∈ fp1, H' b = none) ∧ W1 j m H' := fun σ' H' s' I' hl hk nx => by
        obtain ⟨m', hm, w'⟩ := hNx1 H' nx
        have pin' : ∀ b ∈ fp1, ∀ o, s14.heap.get? b = some o → s'.heap.get? b = some o ∧ H' b = none := fun b hb o e =>
          let z := I'.pin (b, o) (List.mem_append_right _ (List.mem_append_right _ (mem_pinsAt hb e)))
          ⟨z.1, z.2.1⟩
        refine ⟨m', hm, j + 1, H', I'.unpinned.weak hl hk, T1.keep _ _ _ st14 fun b hb o e => (pin' b hb o e).1, fun b hb => ?_, w'⟩
        obtain ⟨o, e, _⟩ := T1.obj _ _ st14 b hb
        exact (pin' b hb o e).2
      have hl15 : (wipe σ vs1).length = σ15.length := by rw [← hw15, wipe_length]
      have hk15 : ∀ (j : Nat) v, (wipe σ vs1)[j]? = some (some v) → (wipe σ15 vs1)[j]? = some (some v) := fun j v e => by rw [hw15]; exact e
      cases b1 with
      | false =>
        rw [if_neg Bool.false_ne_true] at q16 ⊢
        exact fin1 _ _ _ I16 hl15 (fun j v e => (wipe_some (hk15 j v e)).1) q16
      | true =>
        rw [if_pos rfl] at q16 ⊢
        exact ⟨_, σ15, H16, Nx1, I16, q16, fun σ' H' s' I' hl hk nx => fin1 σ' H' s' I' (hl15.trans hl.symm) (fun j v e => hk j v (hk15 j v e)) nx⟩
  exact hst _ _ _ loop1 (T1.self X.A 0 _ _ _ st11 loop1)
end
section
variable {X : Cx} {elt t0 i0 t1 i1 t2 i2 : Expr} {f0 f1 f2 : List Expr} {sc : Scope} {pos : Pos} {D : Addr} {vs1 vs2 : List Nat} {wi1 wi2 : TI} {g1 g2 : TG} {tt1 tt2 : TT} {te : TE}
theorem innLast (hc : X.calm = true) (hxe : X.xe = fun _ _ => False) (hi : PI X t2 i2 wi2) (hg : PG X t2 g2) (ht : PTs X f2 tt2) (he : PE X elt te) :
    InnP X (Lc3 elt t0 i0 t1 i1 t2 i2 f0 f1 f2 sc pos) 2 D i2 vs2 (wkLoop wi2 g2 tt2 (wkElt te D) vs2) := by
  refine innG hc hxe hi hg ht (fun it R I n s turn h0 => loopIn (in2 elt t0 i0 t1 i1 t2 i2 f0 f1 f2 sc pos) rfl rfl I (fun n s hI => ?_) n h0) (fun it R s h0 h => start2 h0 h)
  refine wpAny_mono (turn n s hI) (fun r s1 h1 => ?_) fun _ _ z => z
  cases r with
  | none => exact h1
  | some v =>
    refine wpAny_mono h1 (fun _ s2 h2 => wpAny_mono h2 (fun _ s3 h3 => wpAny_mono h3 (fun ok s4 h4 => ?_) fun _ _ z => z) fun _ _ z => z) fun _ _ z => z
    cases ok with
    | false => exact h4
    | true =>
      rw [if_pos rfl] at h4 ⊢
      obtain ⟨pins, σ, H, Nx, J, q, k⟩ := h4
      have q : te σ H fun y H7 => ∃ acc, H7 D = some (.lst acc) ∧ acc.length < sizeLine ∧ Nx (upd H7 D (.lst (acc ++ [y]))) := q
      have hq := he.run pins s4 σ H _ J q
      rw [hxe] at hq
      refine wpAny_mono hq (fun z s5 hz => ?_) fun _ _ z => z
      obtain ⟨yv, H17, I17, r17, acc, hD17, hz17, nx⟩ := hz
      exact app_ok (X := X) I17 hD17 hz17 r17 fun s18 I18 => k σ _ s18 I18 rfl (fun j v e => (wipe_some e).1) nx
theorem innMid (hc : X.calm = true) (hxe : X.xe = fun _ _ => False) (hi : PI X t1 i1 wi1) (hg : PG X t1 g1) (ht : PTs X f1 tt1) (hs : ∀ x, foldedSetIterable i2 X.env x = pure x) {wk : L2.St → Hp → (Hp → Prop) → Prop} (hsub : ∀ j ∈ vs2, j ∈ vs1)
    (inn : InnP X (Lc3 elt t0 i0 t1 i1 t2 i2 f0 f1 f2 sc pos) 2 D i2 vs2 wk) :
    InnP X (Lc3 elt t0 i0 t1 i1 t2 i2 f0 f1 f2 sc pos) 1 D i1 vs1 (wkLoop wi1 g1 tt1 wk vs1) := by
  refine innG hc hxe hi hg ht (fun it R I n s turn h0 => loopOut (out1 elt t0 i0 t1 i1 t2 i2 f0 f1 f2 sc pos) rfl rfl hs I (fun n s hI => ?_) n h0) (fun it R s h0 h => start1 h0 h)
  refine wpAny_mono (turn n s hI) (fun r s1 h1 => ?_) fun _ _ z => z
  cases r with
  | none => exact h1
  | some v =>
    refine wpAny_mono h1 (fun _ s2 h2 => wpAny_mono h2 (fun _ s3 h3 => wpAny_mono h3 (fun ok s4 h4 => ?_) fun _ _ z => z) fun _ _ z => z) fun _ _ z => z
    cases ok with
    | false => exact h4
    | true =>
      rw [if_pos rfl] at h4 ⊢
      obtain ⟨pins, σ, H, Nx, J, q, k⟩ := h4
      refine wpAny_mono (inn pins σ H s4 Nx J q) (fun x s5 h5 => wpAny_mono h5 (fun it1 s6 h6 => codeAny_mono h6 fun r s' hr => ?_) fun _ _ z => z) fun _ _ z => z
      cases r with
      | error e => exact hr
      | ok f =>
        obtain ⟨σ', H', I', hl, hk, nx⟩ := hr
        refine k σ' H' s' I' hl (fun j v e => hk j v ?_) nx
        obtain ⟨e1, e2⟩ := wipe_some e
        rw [wipe_out fun z => e2 (hsub j z)]
        exact e1
/-- [elt for t0 in i0 if .. for t1 in i1 if .. for t2 in i2 if ..]; vs: the block's names -/
def tLc3 (wi : TI) (g : TG) (tt : TT) (wk : Addr → L2.St → Hp → (Hp → Prop) → Prop) (vs : List Nat) : TE := fun σ H Q => wi σ H fun J H1 => ∀ D, H1 D = none → ∃ W : Nat → Nat → Hp → Prop, (∃ m, W 0 m (upd H1 D (.lst []))) ∧ ∀ i m H, W i m H →
  (J.stop i H ∧ Q (.ref D) H) ∨ (J.go i H ∧ ∃ Nx : Hp → Prop, (∀ H', Nx H' → ∃ m', m' < m ∧ W (i + 1) m' H') ∧ ∀ x H', J.yld i H x H' → g x (wipe σ vs) H' fun σ2 H2 => wipe σ2 vs = wipe σ vs ∧ tt σ2 H2 fun b H3 => if b = true then wk D σ2 H3 Nx else Nx H3)
theorem pe_lc3 {scope : Scope} {own : List (Str × Nat)} {wi : TI} {g : TG} {tt : TT} {wk : Addr → L2.St → Hp → (Hp → Prop) → Prop} (hc : X.calm = true) (hN : X.N.Nodup) (hi : PI X t0 i0 wi) (ok : BlkOk X.N X.env.scope scope own) (hv : ∀ i ∈ vs1, i ∈ own.map (·.2))
    (hg : ∀ (s : Shared) (H : Hp) (C : Addr) (cl : List (Str × Addr)) (fp : List Addr), PG (X.blk s H scope (compEnvC scope cl C X.env) fp) t0 g) (ht : ∀ (s : Shared) (H : Hp) (C : Addr) (cl : List (Str × Addr)) (fp : List Addr), PTs (X.blk s H scope (compEnvC scope cl C X.env) fp) f0 tt)
    (hin : ∀ (s : Shared) (H : Hp) (C D : Addr) (cl : List (Str × Addr)) (fp : List Addr), InnP (X.blk s H scope (compEnvC scope cl C X.env) fp) (Lc3 elt t0 i0 t1 i1 t2 i2 f0 f1 f2 scope pos) 1 D i1 vs1 (wk D))
    (hs : ∀ x, foldedSetIterable i0 X.env x = pure x := by intro _; rfl) (hs1 : ∀ env x, foldedSetIterable i1 env x = pure x := by intro _ _; rfl) :
    PE X (Lc3 elt t0 i0 t1 i1 t2 i2 f0 f1 f2 scope pos) (tLc3 wi g tt wk (own.map (·.2))) := by
  constructor
  intro pins s σ H Q I h
  rw [eval_ListComp]
  have hfree : ∀ y ∈ scope.names, y.2 = .free → ∃ c, X.env.cells.lookup y.1 = some c := fun y hy e => (ok.free y hy e).elim (fun k => I.ok.has _ (.inl k)) fun k => I.ok.has _ (.inr k)
  refine wpAny_comprehension_free (use := none) rfl hs (closure_ok hfree) ok.kind (fun y hy e => by rw [ok.uniq y hy, e]) (thn (hi.run pins s σ H _ I h) fun xv s1 hx => thn hx fun itv s2 h2 => ?_)
  obtain ⟨it, fp, tn, J, H2, rfl, I2, T, st2, f2', q⟩ := h2
  refine wpAny_newObj_type (newEnv_comp ?_) (by show 0 ≤ sizeLine; decide)
  generalize hD : s2.heap.objs.size = D
  have hDn : H2 D = none := I2.hok.fresh (Nat.le_of_eq hD)
  obtain ⟨W, ⟨m0, w0⟩, turn⟩ := q D hDn
  generalize hs3 : ({ s2 with heap := s2.heap.push { cls := .type "list", data := .seq ([] : List Value).toArray } } : Shared) = s3
  have I3 : Inv X pins σ (upd H2 D (.lst [])) s3 := by
    rw [← hs3]
    refine I2.laid (t' := s2.toks) (fun b o e => Heap.get?_push_of_some _ e) (Nat.le_of_eq hD) ⟨Nat.zero_le _, [], 0, .nil, ?_⟩
    rw [← hD]
    exact Heap.get?_push_size _ rfl
  have h3 : s3.heap = s2.heap.push { cls := .type "list", data := .seq ([] : List Value).toArray } := by rw [← hs3]
  have sz : ∀ b ∈ fp, b < s2.heap.objs.size := fun b hb => by
    obtain ⟨o, e, _⟩ := T.obj _ _ st2 b hb
    exact Heap.lt_size e
  have f3 : ∀ b ∈ fp, FpOk X pins (upd H2 D (.lst [])) b ∧ b < s3.heap.objs.size := fun b hb => by
    have hlt := sz b hb
    refine ⟨⟨?_, (f2' b hb).2⟩, by rw [h3, Heap.size_push]; exact Nat.lt_succ_of_lt hlt⟩
    rw [upd_ne (by rw [← hD]; exact Nat.ne_of_lt hlt)]
    exact (f2' b hb).1
  have st3 : tn 0 s3.heap := T.keep _ _ _ st2 fun b _ o e => by rw [h3]; exact Heap.get?_push_of_some _ e
  have I4 := block_start I3 ok hN f3
  have pg := hg s3 (upd H2 D (.lst [])) s3.heap.objs.size (cellsFrom (s3.heap.objs.size + 1) scope.names (cloFrom X.env.cells scope.names [])) fp
  have pt := ht s3 (upd H2 D (.lst [])) s3.heap.objs.size (cellsFrom (s3.heap.objs.size + 1) scope.names (cloFrom X.env.cells scope.names [])) fp
  have pin := hin s3 (upd H2 D (.lst [])) s3.heap.objs.size D (cellsFrom (s3.heap.objs.size + 1) scope.names (cloFrom X.env.cells scope.names [])) fp
  have nfp : ∀ b ∈ fp, (upd H2 D (.lst [])) b = none := fun b hb => (f3 b hb).1.1
  have fin : ∀ C s' m H', Inv X pins σ H' s' → Q (.ref D) H' → s'.heap.Ns C m → FpOk X pins H' C → compPost (model X.prog X.w) X.A X.xe none (EP X pins σ Q) (.ref D) C (.ok .next) s' := fun C s' m H' I' q hn f => ⟨m, hn, fun h'' sb => by
    obtain ⟨a0, a1, _, a3, a4, a5⟩ := f
    exact ⟨.ref D, H', I'.turned (t' := s'.toks) (fun b o hb e => (sb.2 b hb).trans e) a0 a1 a3 a4 a5, rfl, q⟩⟩
  show codeAny _ _ (.compStart (Lc3 elt t0 i0 t1 i1 t2 i2 f0 f1 f2 scope pos) 0 (.ref it) (.ref D) (compEnvC scope (cellsFrom (s3.heap.objs.size + 1) scope.names (cloFrom X.env.cells scope.names [])) s3.heap.objs.size X.env)) (compPost (model X.prog X.w) X.A X.xe none (EP X pins σ Q) (.ref D) s3.heap.objs.size)
    { s3 with heap := pushCells (s3.heap.push { cls := .type "dict", data := .dict #[] }) scope.names }
  generalize hce : compEnvC scope (cellsFrom (s3.heap.objs.size + 1) scope.names (cloFrom X.env.cells scope.names [])) s3.heap.objs.size X.env = ce at I4 pg pt pin ⊢
  have cL : ce.locals = s3.heap.objs.size := by
    subst hce
    rfl
  generalize hH3 : upd H2 D (.lst []) = H3 at I3 I4 pg pt pin w0 nfp f3
  generalize hs4 : ({ s3 with heap := pushCells (s3.heap.push { cls := .type "dict", data := .dict #[] }) scope.names } : Shared) = s4 at I4 ⊢
  have st4 : tn 0 s4.heap := T.keep _ _ _ st3 fun b _ o e => by
    rw [← hs4]
    exact pushCells_keeps _ _ _ _ (Heap.get?_push_of_some _ e)
  have stat : ∀ {σ' : L2.St} {H' : Hp} {s' : Shared}, Inv (X.blk s3 H3 scope ce fp) [] σ' H' s' → (∀ b ∈ fp, H' b = none) → ∀ b ∈ fp, FpOk (X.blk s3 H3 scope ce fp) [] H' b := fun I' hn b hb =>
    ⟨hn b hb, (I'.ok.exf b hb).1, I'.ok.exfs b hb, .inl hb, fun x c e => (I'.ok.exf b hb).2 x c e, fun p hp => absurd (show p ∈ ([] : List (Addr × Obj)) ++ [] from hp) (by simp)⟩
  have loop : codeAny (model X.prog X.w) X.A (.compLoop (Lc3 elt t0 i0 t1 i1 t2 i2 f0 f1 f2 scope pos) 0 (.ref it) (.ref D) ce) (compPost (model X.prog X.w) X.A X.xe none (EP X pins σ Q) (.ref D) s3.heap.objs.size) s4 := by
    refine loopOut (out0 elt t0 i0 t1 i1 t2 i2 f0 f1 f2 scope pos) rfl rfl (hs1 ce) (fun n s' => ∃ i H', Inv (X.blk s3 H3 scope ce fp) [] (wipe σ (own.map (·.2))) H' s' ∧ tn i s'.heap ∧ (∀ b ∈ fp, H' b = none) ∧ W i n H') ?_ m0 ⟨0, H3, I4, st4, nfp, w0⟩
    rintro n s5 ⟨i, H5, I5, st5, n5, w5⟩
    rcases turn i n H5 w5 with ⟨stop, qq⟩ | ⟨go, Nx, hNx, step⟩
    · refine wpAny_mono (T.done (X.blk s3 H3 scope ce fp) rfl rfl rfl hc i [] s5 _ H5 (fun _ _ => False) I5 (stat I5 n5) st5 stop) (fun r s6 hr => ?_) fun _ _ z => z
      obtain ⟨rfl, I6⟩ := hr
      have I7 : Inv X pins σ H5 s6 := I3.call' (ch := fp) I6.os I6.base I6.hok I6.bare fun b hb => ⟨(f3 b hb).1.2.2.2.1, (f3 b hb).1.2.1, (f3 b hb).1.2.2.2.2.1, (f3 b hb).1.2.2.2.2.2⟩
      have nC : H5 s3.heap.objs.size = none := by
        have z : H5 ce.locals = none := I6.free
        rw [cL] at z
        exact z
      obtain ⟨m, hn, _⟩ := I6.loc
      have hn : s6.heap.Ns ce.locals m := hn
      rw [cL] at hn
      exact fin s3.heap.objs.size s6 m H5 I7 qq hn (I3.fpOk (Nat.le_refl _) nC)
    · refine wpAny_mono (T.item (X.blk s3 H3 scope ce fp) rfl rfl rfl hc i [] s5 _ H5 (fun _ _ => False) I5 (stat I5 n5) st5 go) (fun r s6 hr => ?_) fun _ _ z => z
      obtain ⟨u, rfl, h6⟩ := hr
      refine wpAny_mono h6 (fun _ s7 h7 => ?_) fun _ _ z => z
      obtain ⟨x, H7, I7, r7, y7, st7, n7⟩ := h7
      have I7' := I7.pinned (stat I7 n7) (T.obj _ _ st7)
      refine wpAny_mono (pg.run _ s7 _ H7 x u _ I7' r7 (step x H7 y7)) (fun _ s8 h8 => ?_) fun _ _ z => z
      obtain ⟨σ8, H8, I8, hw8, q8⟩ := h8
      refine wpAny_mono (pt.run _ s8 σ8 H8 _ I8 q8) (fun b s9 h9 => ?_) fun _ _ z => z
      obtain ⟨H9, I9, q9⟩ := h9
      have back : ∀ {σ9 : L2.St} {s' : Shared} {H' : Hp}, Inv (X.blk s3 H3 scope ce fp) ([] ++ pinsAt fp s7.heap) σ9 H' s' → (wipe σ (own.map (·.2))).length = σ9.length → (∀ (j : Nat) v, (wipe σ (own.map (·.2)))[j]? = some (some v) → σ9[j]? = some (some v)) → Nx H' →
          ∃ m, m < n ∧ ∃ i H', Inv (X.blk s3 H3 scope ce fp) [] (wipe σ (own.map (·.2))) H' s' ∧ tn i s'.heap ∧ (∀ b ∈ fp, H' b = none) ∧ W i m H' := fun {σ9 s' H'} I' hl hk nx => by
        obtain ⟨m', hm, w'⟩ := hNx H' nx
        have pin' : ∀ b ∈ fp, ∀ o, s7.heap.get? b = some o → s'.heap.get? b = some o ∧ H' b = none := fun b hb o e =>
          let z := I'.pin (b, o) (List.mem_append_right _ (List.mem_append_right _ (mem_pinsAt hb e)))
          ⟨z.1, z.2.1⟩
        refine ⟨m', hm, i + 1, H', (I'.unpinned (pins := [])).weak hl hk, T.keep _ _ _ st7 fun b hb o e => (pin' b hb o e).1, fun b hb => ?_, w'⟩
        obtain ⟨o, e, _⟩ := T.obj _ _ st7 b hb
        exact (pin' b hb o e).2
      have hl8 : (wipe σ (own.map (·.2))).length = σ8.length := by rw [← hw8, wipe_length]
      have hk8 : ∀ (j : Nat) v, (wipe σ (own.map (·.2)))[j]? = some (some v) → σ8[j]? = some (some v) ∧ j ∉ own.map (·.2) := fun j v e => by
        rw [← hw8] at e
        exact wipe_some e
      cases b with
      | false =>
        rw [if_neg Bool.false_ne_true] at q9 ⊢
        exact back I9 hl8 (fun j v e => (hk8 j v e).1) q9
      | true =>
        rw [if_pos rfl] at q9 ⊢
        refine wpAny_mono (pin _ σ8 H9 s9 Nx I9 q9) (fun xv s10 h10 => wpAny_mono h10 (fun itv s11 h11 => codeAny_mono h11 fun r s' hr => ?_) fun _ _ z => z) fun _ _ z => z
        cases r with
        | error e => exact hr
        | ok fl =>
          obtain ⟨σ', H', I', hl, hk, nx⟩ := hr
          refine back I' (hl8.trans hl.symm) (fun j v e => hk j v ?_) nx
          obtain ⟨e1, e2⟩ := hk8 j v e
          rw [wipe_out fun z => e2 (hv j z)]
          exact e1
  exact codeAny_compStart_list loop (T.self X.A 0 _ _ _ st4 loop)
end
end Abv
set_option Elab.async false
set_option linter.all false
set_option maxRecDepth 100000
set_option maxHeartbeats 4000000
/-! ## steps, different -/
namespace Abv
open PySem PySem.Spec PyProof.Rows L2
section
variable {P : Program} {w : World} {K : PySem.W.Frag} {mg : Str → Option Value} {base : Heap}
def spSteps (K : PySem.W.Frag) : Sp := fun vs H Q E => ∃ x dp dl d2 vl vv Ps, vs = [.ref x, vl, vv] ∧ Rp K (CL K) H dl vl ∧ Rp K (CL K) H d2 vv ∧ lblArg dl = true ∧ pln d2 = true ∧
  TreeP K H x dp Ps ∧ (∀ p ∈ Ps, p.2.2.length < 60 ∧ ∀ q ∈ p.2.2, kV q.1 ∈ menuK) ∧ (ent2Err dl d2 = none → okV vv = true ∧ d2 = dOf vv ∧ ∃ ms, dl = .lab ms ∧ LblOk ms) ∧
  OrErr K H (ent2Err dl d2) E (∀ ms, dl = .lab ms → ∀ H' ks, Same H H' → ks.Perm (keysOf (inner Ps (vtV vv))) → ks.Pairwise vle → Q (.int (1 + ((ents (inner Ps (vtV vv)) ms ks).length : Int))) H')
abbrev s_IndexTree_steps : Stmt := inClass (top 40) 4
abbrev n_IndexTree_steps : List Str := ["self", "label", "value"]
theorem sc_IndexTree_steps : FnScope n_IndexTree_steps ["self", "label", "value"] (defScope s_IndexTree_steps) := ⟨rfl, rfl, rfl, by decide +kernel, rfl, by decide +kernel, by decide +kernel⟩
theorem OrErr.imp {H : Hp} {er : Option (Str × Dt)} {E E' : XK} {Qn Qn' : Prop} (h : OrErr K H er E Qn) (hE : ∀ cls dx H', E cls dx H' → E' cls dx H') (hQ : Qn → Qn') : OrErr K H er E' Qn' := by
  unfold OrErr at h ⊢
  cases er with
  | none => exact hQ h
  | some e => exact fun cls dx H' r => hE _ _ _ (h cls dx H' r)
theorem ok_steps (T : Tx K mg) (Y : Ty K) (Z : Xs P K) : FnR P w K mg base (L2.CX P w) 10 (He.ma K (CT K) "steps") (spSteps K) := by
  have M_entries_at : FnR P w K mg base (L2.CX P w) 9 (He.ma K (CT K) "entries_at") (spEnt K) := ok_ent T Y Z
  refine ofDF Y.steps.2 sc_IndexTree_steps (fun _ _ _ _ _ _ us hl => match us, hl with | [_, _, _], _ => rfl) (fun vs H Q E h => ?_) (fun cdv A outer s H vs Q E hr h => ?_)
  · obtain ⟨x, dp, dl, d2, vl, vv, Ps, rfl, _⟩ := h
    rfl
  obtain ⟨x, dp, dl, d2, vl, vv, Ps, rfl, hl, hv, al, a2, TP, hPk, hok, k⟩ := h
  refine ⟨_, (pss_one (ps_ret (pe_op op_add pe_int (pe_callB (id := "len") (lenK (K := K)) (by rfl) T.b_len (by decide +kernel) (pa_cons (pe_methR (pv 0) Y.cT Y.entries.1 M_entries_at (hr.mono (by decide)) (passes_call (takes_of rfl rfl rfl rfl) (fun _ _ _ _ h => h)) (pa_cons (pv 1) (pa_cons (pv 2) pa_nil))) pa_nil))))), ?_⟩
  obtain ⟨dx, dvv, hx⟩ := TP.ins
  refine ⟨_, rfl, x, dx, _, rfl, hx, rfl, _, rfl, _, rfl, x, dp, dl, d2, vl, vv, Ps, rfl, hl, hv, al, a2, TP, hPk, hok, k.imp (fun _ _ _ h => h) fun k ms e H' p ks ys h1 h2 h3 h4 h5 h6 => ?_⟩
  refine ⟨_, ys.length, rfl, .inl ⟨_, SqL.of h3, rfl⟩, _, _, rfl, rfl, ?_⟩
  rw [h6.len]
  exact k ms e H' ks h1 h4 h5
/-! ### different -/
/-- is there an entry with this value below ms -/
def hasB (Ps : PlL) (ms : List Str) (v : V) : Bool := !(ents (inner Ps (vtV v)) ms (keysOf (inner Ps (vtV v)))).isEmpty
theorem ents_perm {L : InL} {ms : List Str} {ks ks' : List V} (h : ks.Perm ks') : (ents L ms ks).Perm (ents L ms ks') := by
  unfold ents
  exact h.flatMap_right _
theorem hasB_perm {Ps : PlL} {ms : List Str} {v : V} {ks : List V} {n : Nat} (h : ks.Perm (keysOf (inner Ps (vtV v)))) : (!(ents (inner Ps (vtV v)) ms ks).isEmpty) = hasB Ps ms v := by
  unfold hasB
  have := (ents_perm (L := inner Ps (vtV v)) (ms := ms) h)
  cases h1 : ents (inner Ps (vtV v)) ms ks with
  | nil =>
    rw [h1] at this
    rw [List.nil_perm.mp this]
  | cons a l =>
    rw [h1] at this
    cases h2 : ents (inner Ps (vtV v)) ms (keysOf (inner Ps (vtV v))) with
    | nil =>
      rw [h2] at this
      exact absurd (List.perm_nil.mp this) (by simp)
    | cons b m => rfl
def spDif (K : PySem.W.Frag) : Sp := fun vs H Q E => ∃ x dv dp dl vl Vs Ps n, vs = [.ref x, vl] ∧ Rp K (CL K) H dl vl ∧ lblArg dl = true ∧ TreeAt K H x dv dp Vs Ps ∧ TOk n n n n Vs Ps ∧ n < 60 ∧ (∀ ms, dl = .lab ms → LblOk ms) ∧
  OrErr K H (lblErr dl) E (∀ ms, dl = .lab ms → ∀ H' p us', Same H H' → H p = none → H' p = some (.lst us') → us'.Perm ((Vs.map (·.2)).filter (hasB Ps ms)) → us'.Pairwise vle → Q (.ref p) H')
abbrev s_IndexTree_different : Stmt := inClass (top 40) 5
abbrev n_IndexTree_different : List Str := ["self", "label", "found", "value"]
theorem sc_IndexTree_different : FnScope n_IndexTree_different ["self", "label"] (defScope s_IndexTree_different) := ⟨rfl, rfl, rfl, by decide +kernel, rfl, by decide +kernel, by decide +kernel⟩
theorem ok_dif (T : Tx K mg) (Y : Ty K) (Z : Xs P K) : FnR P w K mg base (L2.CX P w) 10 (He.ma K (CT K) "different") (spDif K) := by
  have M_entries_at : FnR P w K mg base (L2.CX P w) 9 (He.ma K (CT K) "entries_at") (spEnt K) := ok_ent T Y Z
  have C_want_label : Cl (L2.CX P w) P w K mg base 3 "want_label" (spWantL K) := ok_want_label T Y Z
  have C_in_value_order : Cl CX0 P w K mg base 4 "in_value_order" (sp_in_value_order K) := ok_in_value_order T
  refine ofDF Y.different.2 sc_IndexTree_different (fun _ _ _ _ _ _ us hl => match us, hl with | [_, _], _ => rfl) (fun vs H Q E h => ?_) (fun cdv A outer s H vs Q E hr h => ?_)
  · obtain ⟨x, dv, dp, dl, vl, Vs, Ps, n, rfl, _⟩ := h
    rfl
  obtain ⟨x, dv, dp, dl, vl, Vs, Ps, n, rfl, hl, al, TA, TO, hn, hm, k⟩ := h
  refine ⟨_, (pss_cons (ps_expr (pe_cl C_want_label hr (by decide) (passes_call (takes_of rfl rfl rfl rfl) (fun _ _ _ _ h => h)) rfl (pa_cons (pv 1) pa_nil)))
      (pss_cons (ps_lock (ps_setLc (i := 2) (own := [("value", 3)]) rfl sc_IndexTree_different.nd rfl rfl (sw_true rfl rfl rfl (by decide +kernel)) (pi_values (pe_fldK (K := K) (pv 0))) (blkOk_by (own := [("value", 3)]) (N := n_IndexTree_different) (sc := defScope s_IndexTree_different) (by decide +kernel)) (fun _ _ _ _ _ => (pg_name (i := 3) sc_IndexTree_different.nd rfl (Or.inl rfl))) (fun _ _ _ _ _ => pts_one (pt_cmpR (neNil (K := K) hr.units0) (pe_methR (pv 0) Y.cT Y.entries.1 M_entries_at (hr.mono (by decide)) passL (pa_cons (pv 1) (pa_cons (pv 3) pa_nil))) (pe_lst pa_nil) (nomark _))) (fun _ _ _ _ _ => (pv 3))))
      (pss_one (ps_ret (pe_cl C_in_value_order hr (by decide) pass0 rfl (pa_cons (pv 2) pa_nil)))))), ?_⟩
  refine ⟨_, rfl, dl, vl, rfl, hl, al, fun il H1 e1 => ?_, fun il cls dx H' r => ?_⟩
  case refine_2 =>
    unfold lblErr at k
    rw [if_neg (by rw [il]; exact Bool.noConfusion)] at k
    exact k cls dx H' r
  unfold lblErr at k
  rw [if_pos il] at k
  obtain ⟨ms, rfl⟩ : ∃ ms, dl = .lab ms := by
    cases dl with
    | lab ms => exact ⟨ms, rfl⟩
    | _ => cases il
  have k := k ms rfl
  have hm := hm ms rfl
  have T1 := TA.same e1
  refine ⟨dv, _, T1.atV, True.intro, fun od => ?_⟩
  obtain ⟨dx, hx⟩ := T1.ins
  have nd := T1.nd
  have nxv : ∀ {b : Addr} {o : HO}, H1 b = some o → (∀ kvs, o ≠ .dK kvs) → b ≠ dv := fun h n z => by
    rw [z, T1.atV] at h
    cases h
    exact n _ rfl
  have fz : ∀ {b : Addr} {o : HO}, H1 b = some o → b ≠ dv → upd H1 dv (.frz od (.dK (dV Vs))) b = some o := fun h n => by
    rw [upd_ne n]
    exact h
  have n1 : ∀ {c : Addr}, c ∈ dp :: adP Ps → c ≠ dv := fun hc z => (List.nodup_cons.mp nd).1 (by rw [← z]; exact hc)
  have TP : TreeP K (upd H1 dv (.frz od (.dK (dV Vs)))) x dp Ps := ⟨⟨dx, dv, fz hx (nxv hx fun _ z => by cases z)⟩, fz T1.atP (n1 (List.mem_cons_self ..)), fun p hp => fz (T1.atI p hp) (n1 (List.mem_cons_of_mem _ (mem_adP hp))),
    fun p hp q hq => fz (T1.atS p hp q hq) (n1 (List.mem_cons_of_mem _ (mem_adP2 hp hq)))⟩
  have hF : upd H1 dv (.frz od (.dK (dV Vs))) dv = some (.frz od (.dK (dV Vs))) := upd_same
  have hl1 : Rp K (CL K) (upd H1 dv (.frz od (.dK (dV Vs)))) (.lab ms) vl := by
    have h := Rp.same e1 _ _ hl
    refine Rp.kt (fun b o e so => fz e (nxv e fun kvs z => ?_)) _ _ rfl h
    rw [z] at so
    exact so
  -- back from the lock
  have back : ∀ {H' : Hp}, Same (upd H1 dv (.frz od (.dK (dV Vs)))) H' → Same H1 (upd H' dv (.dK (dV Vs))) := fun h b o e => by
    by_cases hb : b = dv
    · subst hb
      rw [upd_same, ← e, T1.atV]
    · rw [upd_ne hb]
      exact h _ _ (fz e hb)
  have nF : ∀ {b : Addr}, upd H1 dv (.frz od (.dK (dV Vs))) b = none → H1 b = none ∧ b ≠ dv := fun {b} h => by
    have hne : b ≠ dv := fun z => by
      rw [z, upd_same] at h
      cases h
    exact ⟨by rw [upd_ne hne] at h; exact h, hne⟩
  have hxF := fz hx (nxv hx fun _ z => by cases z)
  have lV : (dV Vs).length = Vs.length := List.length_map ..
  have hVn := TO.nV
  have hvs : ∀ p ∈ Vs, okV p.2 = true ∧ p.1 = vtV p.2 := fun p hp => ⟨menuV_ok _ (TO.okVs p hp).1, (TO.okVs p hp).2⟩
  have hPk : ∀ p ∈ Ps, p.2.2.length < 60 ∧ ∀ q ∈ p.2.2, kV q.1 ∈ menuK := fun p hp => ⟨Nat.lt_of_le_of_lt (TO.nI p hp) hn, TO.okK p hp⟩
  generalize hHF : upd H1 dv (.frz od (.dK (dV Vs))) = HF at TP hF hl1 back nF hxF
  refine ⟨_, rfl, x, CT K, dx, _, _, rfl, hxF, Y.cT, Y.aV, rfl, dv, od, dV Vs, rfl, hF, fun D nD => lcJ (K := K) (C := CL K) (n := Vs.length) (fun i y _ => ∃ p, Vs[i]? = some p ∧ y = p.2) (fun i => (Vs[i]?).bind fun p => if hasB Ps ms p.2 = true then some (dOf p.2) else none) (fmSame HF) nD (by omega)
    (fun i Hc hi hM => ⟨hM _ _ hF, by rw [lV]; exact hi⟩) (fun Hc hM => ⟨hM _ _ hF, by rw [lV]; exact Nat.le_refl _⟩) ?_ ?_ ?_ ?_⟩
  · rintro i Hc y Hd hi hM ⟨rfl, kk, hkk⟩
    unfold dV at hkk
    rw [List.getElem?_map, Option.map_eq_some_iff] at hkk
    obtain ⟨p, hp, e⟩ := hkk
    exact ⟨Same.refl _, p, hp, by injection e with _ e; exact e.symm⟩
  · intro i d hi e
    rw [List.getElem?_eq_getElem hi, Option.bind_some] at e
    split at e
    · cases e
      exact okV_noL (hvs _ (List.getElem_mem hi)).1
    · cases e
  · rintro i y Hc R S hi hM ⟨p, hp, rfl⟩ hR hS
    have hpm := List.mem_of_getElem? hp
    obtain ⟨ov, _⟩ := hvs p hpm
    have he : ent2Err (.lab ms) (dOf p.2) = none := by
      unfold ent2Err
      rw [if_neg (by simp [isLab]), if_neg (by rw [(Bool.and_eq_true_iff.mp ov).1]; exact Bool.noConfusion)]
    refine ⟨rfl, _, rfl, x, dx, _, rfl, hM _ _ hxF, rfl, _, rfl, _, rfl, x, dp, .lab ms, dOf p.2, vl, p.2, Ps, rfl, Rp.same hM _ _ hl1, okV_rp ov, al, (Bool.and_eq_true_iff.mp ov).2, TP.same hM, hPk, fun _ => ⟨ov, rfl, ms, rfl, hm⟩, ?_⟩
    rw [he]
    intro ms' e Hd pp ks ys s1 s2 s3 s4 s5 s6
    cases e
    refine ⟨szl (Nat.zero_le _), fun q nq => ⟨pp, q, ys, rfl, rfl, SqL.of (Same.new nq _ _ s3), SqL.of upd_same, _, rfl, ?_⟩⟩
    have hb : (!ys.isEmpty) = hasB Ps ms p.2 := by
      rw [← hasB_perm (n := 0) s4]
      have hl := s6.len
      generalize ents (inner Ps (vtV p.2)) ms ks = es at hl
      cases ys <;> cases es <;> first | rfl | (simp at hl)
    rw [hb]
    have sN := s1.trans (Same.new (u := .lst []) nq)
    cases hB : hasB Ps ms p.2 with
    | true =>
      refine iteT ⟨p.2, rfl, hS p.2 _ (dOf p.2) sN ?_ (okV_rp ov)⟩
      show (Vs[i]?).bind _ = _
      rw [hp, Option.bind_some, if_pos hB]
    | false =>
      refine iteF (hR _ sN ?_)
      show (Vs[i]?).bind _ = _
      rw [hp, Option.bind_some, if_neg (by rw [hB]; exact Bool.false_ne_true)]
  · intro Hc ys hM hD hy
    have e : (List.range Vs.length).filterMap (fun i => (Vs[i]?).bind fun p => if hasB Ps ms p.2 = true then some (dOf p.2) else none) = ((Vs.map (·.2)).filter (hasB Ps ms)).map dOf := by
      rw [fm_list, ← fm_filter, List.filterMap_map]
      rfl
    rw [e] at hy
    have hall : ∀ v ∈ (Vs.map (·.2)).filter (hasB Ps ms), okV v = true := fun v hv => by
      obtain ⟨p, hp, rfl⟩ := List.mem_map.mp (List.mem_filter.mp hv).1
      exact (hvs p hp).1
    have hy := okV_all hall hy
    subst hy
    obtain ⟨nD1, nDv⟩ := nF nD
    refine ⟨hM _ _ hF, ?_⟩
    have eB := back hM
    have hDB : upd Hc dv (.dK (dV Vs)) D = some (.lst ((Vs.map (·.2)).filter (hasB Ps ms))) := by
      rw [upd_ne nDv]
      exact hD
    generalize upd Hc dv (.dK (dV Vs)) = HB at eB hDB
    refine ⟨_, rfl, D, _, rfl, SqL.of hDB, hall, ?_, fun H' p us' s1 s2 s3 s4 s5 => k H' p us' (e1.trans (eB.trans s1)) ((e1.trans eB).free s2) s3 s4 s5⟩
    have := List.length_filter_le (hasB Ps ms) (Vs.map (·.2))
    rw [List.length_map] at this
    omega
end
end Abv
set_option Elab.async false
set_option linter.all false
set_option maxRecDepth 100000
set_option maxHeartbeats 4000000
/-! ## len(tree), IndexTree() -/
namespace Abv
open PySem PySem.Spec PyProof.Rows L2
theorem flat_one {α β : Type} (g : α → β) : ∀ l : List α, (l.flatMap fun s => [g s]) = l.map g
  | [] => rfl
  | x :: l => by rw [List.flatMap_cons, flat_one g l]; rfl
theorem yesW {σ : L2.St} {H : Hp} {A B : Hp → Prop} (h : A H) : tYes σ H fun b H3 => if b = true then A H3 else B H3 := by
  show if true = true then A H else B H
  rw [if_pos rfl]
  exact h
/-- the dicts of the places -/
def dcts (dp : Addr) (Ps : PlL) : List (Addr × List (Key × V)) := (dp, dP Ps) :: Ps.flatMap fun p => (p.2.1, dI p.2.2) :: p.2.2.map fun q => (q.2.1, dS q.2.2)
theorem dcts_ad {dp : Addr} {Ps : PlL} : (dcts dp Ps).map (·.1) = dp :: adP Ps := by
  unfold dcts adP adI
  rw [List.map_cons, List.map_flatMap]
  simp [List.map_map, Function.comp_def]
section
variable {K : PySem.W.Frag} {H : Hp} {x dv dp : Addr} {Vs : List (Str × V)} {Ps : PlL}
theorem TreeAt.dcts (T : TreeAt K H x dv dp Vs Ps) : ∀ d ∈ Abv.dcts dp Ps, H d.1 = some (.dK d.2) := by
  intro d hd
  rcases List.mem_cons.mp hd with rfl | hd
  · exact T.atP
  obtain ⟨p, hp, hd⟩ := List.mem_flatMap.mp hd
  rcases List.mem_cons.mp hd with rfl | hd
  · exact T.atI p hp
  obtain ⟨q, hq, rfl⟩ := List.mem_map.mp hd
  exact T.atS p hp q hq
end
/-- the labels' texts -/
def labsD (p : Str × Addr × InL) : List Dt := p.2.2.flatMap fun q => q.2.2.map Dt.str
theorem labsD_len (Ps : PlL) : (Ps.flatMap labsD).length = (trip Ps).length := by
  unfold trip labsD
  simp only [List.length_flatMap, List.length_map]
section
variable {P : Program} {w : World} {K : PySem.W.Frag} {mg : Str → Option Value} {base : Heap}
def spTLen (K : PySem.W.Frag) : Sp := fun vs H Q _ => ∃ x dv dp Vs Ps, vs = [.ref x] ∧ TreeAt K H x dv dp Vs Ps ∧ (trip Ps).length ≤ 100000 ∧ ∀ H', Same H H' → Q (.int ((trip Ps).length : Int)) H'
abbrev s_IndexTree___len__ : Stmt := inClass (top 40) 6
abbrev n_IndexTree___len__ : List Str := ["self", "places", "labels", "label"]
theorem sc_IndexTree___len__ : FnScope n_IndexTree___len__ ["self"] (defScope s_IndexTree___len__) := ⟨rfl, rfl, rfl, by decide +kernel, rfl, by decide +kernel, by decide +kernel⟩
theorem ok_tlen (T : Tx K mg) (Y : Ty K) : FnR P w K mg base CX0 1 (He.ma K (CT K) "__len__") (spTLen K) := by
  refine ofDF Y.tlen.2 sc_IndexTree___len__ (fun _ _ _ _ _ _ us hl => match us, hl with | [_], _ => rfl) (fun vs H Q E h => ?_) (fun cdv A outer s H vs Q E hr h => ?_)
  · obtain ⟨x, dv, dp, Vs, Ps, rfl, _⟩ := h
    rfl
  obtain ⟨x, dv, dp, Vs, Ps, rfl, TA, hn, k⟩ := h
  refine ⟨_, PSs.nox (pss_one (ps_ret (pe_callB (id := "len") (lenK (K := K)) (by rfl) T.b_len (by decide +kernel) (pa_cons (pe_locks (pe_lc3 (own := [("places", 1), ("labels", 2), ("label", 3)]) (vs1 := [2, 3]) rfl sc_IndexTree___len__.nd (pi_values (pe_fldK (K := K) (pv 0)))
    (blkOk_by (own := [("places", 1), ("labels", 2), ("label", 3)]) (N := n_IndexTree___len__) (sc := defScope s_IndexTree___len__) (by decide +kernel)) (by decide) (fun _ _ _ _ _ => pg_name (i := 1) sc_IndexTree___len__.nd rfl (Or.inl rfl)) (fun _ _ _ _ _ => pts_nil)
    (fun _ _ _ _ _ _ => innMid (vs1 := [2, 3]) (vs2 := [3]) rfl rfl (pi_values (pv 1)) (pg_name (i := 2) sc_IndexTree___len__.nd rfl (Or.inl rfl)) pts_nil (fun _ => rfl) (by decide)
      (innLast (vs2 := [3]) rfl rfl (pi_keys (pv 2)) (pg_name (i := 3) sc_IndexTree___len__.nd rfl (Or.inl rfl)) pts_nil (pv 3))))) pa_nil)))), ?_⟩
  have nd : ((dcts dp Ps).map (·.1)).Nodup := by
    rw [dcts_ad]
    exact (List.nodup_cons.mp TA.nd).2
  refine locks_of nd TA.dcts fun os Q1 hl hQ => ?_
  have hF : ∀ d ∈ dcts dp Ps, ∃ o, frzL H (dcts dp Ps) os d.1 = some (.frz o (.dK d.2)) := frzL_at nd hl
  obtain ⟨dx, hx⟩ := TA.ins
  have hxF : frzL H (dcts dp Ps) os x = some (.ins (CT K) dx [("own_values", .ref dv), ("own_places", .ref dp)]) := by
    rw [frzL_out, hx]
    intro hm
    rw [dcts_ad] at hm
    obtain ⟨kvs, h⟩ := TA.dk (List.mem_cons_of_mem _ hm)
    rw [hx] at h
    cases h
  have back : ∀ {H'}, (∀ b o, frzL H (dcts dp Ps) os b = some o → H' b = some o) → Same H (thawL H' (dcts dp Ps)) := fun {H'} keep b o hb => by
    by_cases hm : b ∈ (dcts dp Ps).map (·.1)
    · obtain ⟨d, hd, rfl⟩ := List.mem_map.mp hm
      rw [thawL_at nd d hd, ← hb, TA.dcts d hd]
    · rw [thawL_out hm]
      exact keep _ _ (by rw [frzL_out hm]; exact hb)
  generalize hHF : frzL H (dcts dp Ps) os = HF at hQ hF hxF back
  obtain ⟨op, hop⟩ := hF (dp, dP Ps) (List.mem_cons_self ..)
  refine ⟨_, rfl, x, CT K, dx, _, _, rfl, hxF, Y.cT, Y.aP, rfl, dp, op, dP Ps, rfl, hop, fun D nD => ?_⟩
  have F := fmSame HF
  have lP : (dP Ps).length = Ps.length := List.length_map ..
  have tl : (Ps.flatMap labsD).length ≤ 100000 := by rw [labsD_len]; exact hn
  refine lcC (K := K) (C := CL K) (n := Ps.length) F nD (fun i y _ => ∃ p, Ps[i]? = some p ∧ y = .ref p.2.1) (atF Ps labsD) (LcX.nil F nD) (fun i Hc hi hM => ⟨hM _ _ hop, by rw [lP]; exact hi⟩) (fun Hc hM => ⟨hM _ _ hop, by rw [lP]; exact Nat.le_refl _⟩) ?_ ?_ ?_
  · rintro i Hc y Hd hi hM ⟨rfl, kk, hkk⟩
    unfold dP at hkk
    rw [List.getElem?_map, Option.map_eq_some_iff] at hkk
    obtain ⟨p, hp, e⟩ := hkk
    exact ⟨Same.refl _, p, hp, by injection e with _ e; exact e.symm⟩
  · rintro i y Hc R hi ⟨p, hp, rfl⟩ x3 hR
    have hpm := List.mem_of_getElem? hp
    rw [atF_some hp, List.nil_append, flat_take] at hR
    rw [List.nil_append, flat_take] at x3
    have hd1 : ((Ps.take i).flatMap labsD).length + (labsD p).length ≤ 100000 := by
      have e : Ps = Ps.take i ++ p :: Ps.drop (i + 1) := by
        have hlt : i < Ps.length := hi
        have hg : Ps[i] = p := (List.getElem?_eq_some_iff.mp hp).2
        rw [← hg, ← List.drop_eq_getElem_cons hlt, List.take_append_drop]
      rw [e, List.flatMap_append, List.flatMap_cons, List.length_append, List.length_append] at tl
      omega
    generalize (Ps.take i).flatMap labsD = ds at x3 hR hd1
    obtain ⟨oa, hoa⟩ := hF (p.2.1, dI p.2.2) (List.mem_cons_of_mem _ (List.mem_flatMap.mpr ⟨p, hpm, List.mem_cons_self ..⟩))
    have lI : (dI p.2.2).length = p.2.2.length := List.length_map ..
    refine ⟨rfl, yesW ?_⟩
    refine ⟨_, rfl, p.2.1, oa, dI p.2.2, rfl, x3.fr _ _ hoa, ?_⟩
    refine lcC (K := K) (C := CL K) (n := p.2.2.length) F nD (fun i y _ => ∃ q, p.2.2[i]? = some q ∧ y = .ref q.2.1) (atF p.2.2 fun q => q.2.2.map Dt.str) x3 (fun i Hc hi hM => ⟨hM _ _ hoa, by rw [lI]; exact hi⟩) (fun Hc hM => ⟨hM _ _ hoa, by rw [lI]; exact Nat.le_refl _⟩) ?_ ?_ ?_
    · rintro i Hc y Hd hi hM ⟨rfl, kk, hkk⟩
      unfold dI at hkk
      rw [List.getElem?_map, Option.map_eq_some_iff] at hkk
      obtain ⟨q, hq, e⟩ := hkk
      exact ⟨Same.refl _, q, hq, by injection e with _ e; exact e.symm⟩
    · rintro j y Hc2 R2 hj ⟨q, hq, rfl⟩ x4 hR2
      have hqm := List.mem_of_getElem? hq
      rw [atF_some hq, flat_take] at hR2
      rw [flat_take] at x4
      have hd2 : (ds ++ (p.2.2.take j).flatMap fun q => q.2.2.map Dt.str).length + q.2.2.length ≤ 100000 := by
        have e : p.2.2 = p.2.2.take j ++ q :: p.2.2.drop (j + 1) := by
          have hlt : j < p.2.2.length := hj
          have hg : p.2.2[j] = q := (List.getElem?_eq_some_iff.mp hq).2
          rw [← hg, ← List.drop_eq_getElem_cons hlt, List.take_append_drop]
        unfold labsD at hd1
        rw [e, List.flatMap_append, List.flatMap_cons, List.length_append, List.length_append, List.length_map] at hd1
        rw [List.length_append]
        omega
      generalize (ds ++ (p.2.2.take j).flatMap fun q => q.2.2.map Dt.str) = ds2 at x4 hR2 hd2
      obtain ⟨ob, hob⟩ := hF (q.2.1, dS q.2.2) (List.mem_cons_of_mem _ (List.mem_flatMap.mpr ⟨p, hpm, List.mem_cons_of_mem _ (List.mem_map_of_mem (f := fun q : Key × Addr × List Str => (q.2.1, dS q.2.2)) hqm)⟩))
      have lS : (dS q.2.2).length = q.2.2.length := List.length_map ..
      refine ⟨rfl, yesW ?_⟩
      refine ⟨_, rfl, q.2.1, ob, rfl, .inl ⟨dS q.2.2, x4.fr _ _ hob, ?_⟩⟩
      refine lcC (K := K) (C := CL K) (n := q.2.2.length) F nD (fun i y _ => ∃ s, q.2.2[i]? = some s ∧ y = .str s) (atF q.2.2 fun s => [Dt.str s]) x4 (fun i Hc hi hM => ⟨hM _ _ hob, by rw [lS]; exact hi⟩) (fun Hc hM => ⟨hM _ _ hob, by rw [lS]; exact Nat.le_refl _⟩) ?_ ?_ ?_
      · rintro i Hc y Hd hi hM ⟨rfl, kk, vv, hkk, rfl⟩
        unfold dS at hkk
        rw [List.getElem?_map, Option.map_eq_some_iff] at hkk
        obtain ⟨s, hs, e⟩ := hkk
        exact ⟨Same.refl _, s, hs, by injection e with e _; rw [← e]; rfl⟩
      · rintro l y Hc3 R3 hl3 ⟨s, hs, rfl⟩ x5 hR3
        rw [atF_some hs, flat_take] at hR3
        rw [flat_take] at x5
        have hd3 : (ds2 ++ (q.2.2.take l).flatMap fun s => [Dt.str s]).length < 1000000 := by
          have e : ((q.2.2.take l).flatMap fun s => [Dt.str s]).length = (q.2.2.take l).length := by
            rw [flat_one, List.length_map]
          rw [List.length_append, e, List.length_take]
          omega
        refine ⟨rfl, yesW ?_⟩
        obtain ⟨acc, a1, a2, a3⟩ := x5.app F nD (d := .str s) (y := .str s) rfl rfl hd3
        exact ⟨_, rfl, acc, a1, a2, hR3 _ a3⟩
      · intro Hc3 x5
        refine hR2 Hc3 ?_
        rw [flat_range] at x5
        rw [flat_one] at x5
        exact x5
    · intro Hc2 x4
      refine hR Hc2 ?_
      rw [flat_range] at x4
      exact x4
  · intro Hc x3
    rw [List.nil_append, flat_range] at x3
    obtain ⟨ys, hy1, hy2⟩ := x3.at_
    refine hQ _ _ x3.fr ?_
    have hDd : D ∉ (dcts dp Ps).map (·.1) := fun hm => by
      obtain ⟨d, hd, rfl⟩ := List.mem_map.mp hm
      obtain ⟨o, h⟩ := hF d hd
      rw [nD] at h
      cases h
    refine ⟨_, ys.length, rfl, .inl ⟨ys, SqL.of ?_, rfl⟩, ?_⟩
    · rw [thawL_out hDd]
      exact hy1
    · rw [hy2.len, labsD_len]
      exact k _ (back x3.fr)
/-! ### IndexTree() -/
def spTreeI (K : PySem.W.Frag) : Sp := fun vs H Q _ => ∃ x dx, vs = [.ref x] ∧ H x = some (.ins (CT K) dx []) ∧
  ∀ H' dv dp, (∀ b o, H b = some o → b ≠ x → H' b = some o) → TreeAt K H' x dv dp [] [] → Q .non H'
abbrev s_IndexTree___init__ : Stmt := inClass (top 40) 0
abbrev n_IndexTree___init__ : List Str := ["self"]
theorem sc_IndexTree___init__ : FnScope n_IndexTree___init__ ["self"] (defScope s_IndexTree___init__) := ⟨rfl, rfl, rfl, by decide +kernel, rfl, by decide +kernel, by decide +kernel⟩
theorem ok_treeI (T : Tx K mg) (Y : Ty K) : ∃ fd, FnOk P w K mg base CX0 1 (He.ma K (CT K) "__init__") fd ["self"] (spTreeI K) ∧ Binds K fd ["self"] [] := by
  obtain ⟨fd, F⟩ := Y.iT
  refine ⟨fd, F.ok sc_IndexTree___init__ (fun vs H Q E h => ?_) (fun cdv A outer s H vs Q E hr h => ?_), F.bindsN (fun _ _ _ _ _ _ us hl => match us, hl with | [_], _ => rfl)⟩
  · obtain ⟨x, dx, rfl, _⟩ := h
    rfl
  obtain ⟨x, dx, rfl, hx, k⟩ := h
  refine ⟨_, PSs.nox (pss_cons (ps_fld (pv 0) pe_dnewK rfl)
      (pss_one (ps_fld (pv 0) pe_dnewK rfl))), ?_⟩
  refine (show ∀ dv, H dv = none → _ from fun dv hdv => ⟨_, rfl, x, CT K, dx, [], rfl, Same.new hdv _ _ hx, Y.cT, Y.aV, by decide, ?_⟩)
  have e1 := Same.new (u := .dK []) hdv
  have hxv : x ≠ dv := ne_of_none hx hdv
  have h1 : upd (upd H dv (.dK [])) x (.ins (CT K) dx (putF "own_values" (.ref dv) [])) x = some (.ins (CT K) dx [("own_values", .ref dv)]) := upd_same
  have h2 : upd (upd H dv (.dK [])) x (.ins (CT K) dx (putF "own_values" (.ref dv) [])) dv = some (.dK []) := by
    rw [upd_ne (Ne.symm hxv), upd_same]
  have kp : ∀ b o, H b = some o → b ≠ x → upd (upd H dv (.dK [])) x (.ins (CT K) dx (putF "own_values" (.ref dv) [])) b = some o := fun b o hb hbx => by
    rw [upd_ne hbx]
    exact e1 _ _ hb
  generalize upd (upd H dv (.dK [])) x (.ins (CT K) dx (putF "own_values" (.ref dv) [])) = H1 at h1 h2 kp
  refine (show ∀ dp, H1 dp = none → _ from fun dp hdp => ⟨_, rfl, x, CT K, dx, _, rfl, Same.new hdp _ _ h1, Y.cT, Y.aP, Nat.le_of_ble_eq_true rfl, ?_⟩)
  have hxp : x ≠ dp := ne_of_none h1 hdp
  have hvp : dv ≠ dp := ne_of_none h2 hdp
  refine k _ dv dp (fun b o hb hbx => ?_) ⟨⟨dx, upd_same⟩, ?_, ?_, fun p hp => (by cases hp), fun p hp => (by cases hp), ?_⟩
  · rw [upd_ne hbx]
    exact Same.new hdp _ _ (kp b o hb hbx)
  · rw [upd_ne (Ne.symm hxv)]
    exact Same.new hdp _ _ h2
  · rw [upd_ne (Ne.symm hxp), upd_same]
    rfl
  · simp [adP, hvp]
end
end Abv
set_option Elab.async false
set_option linter.all false
set_option maxRecDepth 100000
set_option maxHeartbeats 4000000
/-! ## The law's own numbers: rng, draw, choice -/
namespace Abv
open PySem PySem.Spec PyProof.Rows L2
/-- the list of a stream of numbers -/
def RngAt (r : Addr) (H : Hp) : Prop := ∃ a b : Int, H r = some (.lst [.int a, .int b]) ∧ 0 ≤ a ∧ 0 ≤ b ∧ b < 2147483648
/-- a run that draws -/
def MR (r : Addr) (H H' : Hp) : Prop := RngAt r H' ∧ SB r H H'
theorem MR.trans {r : Addr} {H H1 H2 : Hp} (a : MR r H H1) (b : MR r H1 H2) : MR r H H2 := ⟨b.1, a.2.trans b.2⟩
theorem MR.refl {r : Addr} {H : Hp} (a : RngAt r H) : MR r H H := ⟨a, SB.refl _ _⟩
theorem RngAt.same {r : Addr} {H H' : Hp} (e : Same H H') (a : RngAt r H) : RngAt r H' := by
  obtain ⟨a, b, h, q⟩ := a
  exact ⟨a, b, e _ _ h, q⟩
theorem MR.of {r : Addr} {H H' : Hp} (e : Same H H') (a : RngAt r H) : MR r H H' := ⟨a.same e, SB.of e⟩
theorem MR.kt {r : Addr} {H H' : Hp} (a : RngAt r H) (m : MR r H H') : Kt H H' := by
  obtain ⟨a, b, h, q⟩ := a
  exact m.2.kt h
section
variable {P : Program} {w : World} {K : PySem.W.Frag} {mg : Str → Option Value} {base : Heap}
def spDraw (K : PySem.W.Frag) : Sp := fun vs H Q _ => ∃ (r : Addr) (m : Nat), vs = [.ref r, .int (m : Int)] ∧ 0 < m ∧ m < 1000 ∧ RngAt r H ∧ ∀ (i : Nat) H', i < m → MR r H H' → Q (.int (i : Int)) H'
abbrev s__law_draw : Stmt := top 43
abbrev n__law_draw : List Str := ["_law_rng_here", "_law_many", "_law_digit"]
theorem sc__law_draw : FnScope n__law_draw ["_law_rng_here", "_law_many"] (defScope s__law_draw) := ⟨rfl, rfl, rfl, by decide +kernel, rfl, by decide +kernel, by decide +kernel⟩
theorem ok_draw (T : Tx K mg) : Cl CX0 P w K mg base 1 "_law_draw" (spDraw K) := by
  refine cl0 T.f__law_draw sc__law_draw (fun _ _ _ _ _ _ us hl => match us, hl with | [_, _], _ => rfl) (fun vs H Q E h => ?_) (fun f cdv A outer s H vs Q E hr h => ?_)
  · obtain ⟨r, m, rfl, _⟩ := h
    rfl
  obtain ⟨r, m, rfl, m0, m1, ⟨a, b, hr0, ha, hb, hb2⟩, k⟩ := h
  refine ⟨_, (pss_cons (ps_if (pt_cmpR op_gt (pe_ix (ixL (K := K)) (pv 0) pe_int (fun _ _ => rfl)) pe_int (nomark _)) (pss_cons (ps_asg (pe_callB (id := "divmod") call_divmod (by rfl) T.b_divmod (by decide +kernel) (pa_cons (pe_ix (ixL (K := K)) (pv 0) pe_int (fun _ _ => rfl)) (pa_cons (pv 1) pa_nil))) (pg_tup rfl (pgs_cons (pg_sub (pv 0) pe_int set_list) (pgs_cons (pg_name (i := 2) sc__law_draw.nd rfl (Or.inl rfl)) pgs_nil))))
      (pss_one (ps_ret (pv 2)))) pss_nil)
      (pss_cons (ps_asg (pe_op op_mod (pe_callTy (T := "int") call_int1 (by rfl) T.b_int (by decide +kernel) (pa_cons (pe_op op_add (pe_op op_mul (pe_ix (ixL (K := K)) (pv 0) pe_int (fun _ _ => rfl)) pe_int) pe_int) pa_nil)) pe_int) (pg_sub (pv 0) pe_int set_list))
      (pss_one (ps_ret (pe_op op_mod (pe_callTy (T := "int") call_int1 (by rfl) T.b_int (by decide +kernel) (pa_cons (pe_op op_fdiv (pe_op op_mod (pe_callTy (T := "int") call_int1 (by rfl) T.b_int (by decide +kernel) (pa_cons (pe_op op_mul (pe_ix (ixL (K := K)) (pv 0) pe_int (fun _ _ => rfl)) (pe_ix (ixL (K := K)) (pv 0) pe_int (fun _ _ => rfl))) pa_nil)) pe_int) pe_int) pa_nil)) (pv 1)))))), ?_⟩
  have q0 : atI [V.int a, V.int b] 0 = some (V.int a) := rfl
  have q1 : atI [V.int a, V.int b] 1 = some (V.int b) := rfl
  refine ⟨_, rfl, r, _, 0, _, rfl, rfl, SqL.of hr0, q0, _, _, rfl, rfl, _, rfl, ?_⟩
  refine ite2 (fun hc => ?_) (fun hc => ?_)
  · refine ⟨_, rfl, r, _, 0, _, rfl, rfl, SqL.of hr0, q0, _, rfl, a, m, rfl, ⟨by omega, by omega⟩, fun p hp => ?_⟩
    have hrp : r ≠ p := ne_of_none hr0 hp
    refine ⟨p, [_, _], rfl, SqT.of upd_same, rfl, _, _, rfl, _, rfl, ?_⟩
    refine ⟨r, _, 0, 0, rfl, rfl, by rw [upd_ne hrp]; exact hr0, rfl, ?_⟩
    refine ⟨_, _, rfl, rfl, _, rfl, ?_⟩
    have hm : 0 ≤ a % (m : Int) ∧ a % (m : Int) < m := ⟨Int.emod_nonneg _ (by omega), Int.emod_lt_of_pos _ (by omega)⟩
    have e : a % (m : Int) = ((a % (m : Int)).toNat : Int) := by omega
    show Q (.int (a % (m : Int))) _
    rw [e]
    refine k _ _ (by omega) ⟨⟨a / m, b, upd_same, Int.ediv_nonneg ha (by omega), hb, hb2⟩, fun c o hc hn => ?_⟩
    rw [upd_ne hn, upd_ne (ne_of_none hc hp)]
    exact hc
  · refine ⟨_, rfl, r, _, 1, _, rfl, rfl, SqL.of hr0, q1, _, _, rfl, rfl, .inl ⟨by omega, by omega⟩, _, _, rfl, rfl, .inl ⟨_, rfl, _, _, rfl, rfl, (show (0 : Int) < 2147483629 by decide), ?_⟩⟩
    have hm : 0 ≤ (b * 39373 + 9973) % 2147483629 ∧ (b * 39373 + 9973) % 2147483629 < 2147483629 := ⟨Int.emod_nonneg _ (by omega), Int.emod_lt_of_pos _ (by omega)⟩
    refine ⟨_, rfl, r, _, 1, 1, rfl, rfl, hr0, rfl, ?_⟩
    change (fun H3 => _) (upd H r (.lst [.int a, .int ((b * 39373 + 9973) % 2147483629)]))
    generalize (b * 39373 + 9973) % 2147483629 = c at hm ⊢
    have hr1 : upd H r (.lst [.int a, .int c]) r = some (.lst [.int a, .int c]) := upd_same
    have hs : SB r H (upd H r (.lst [.int a, .int c])) := SB.upd
    show (fun H3 => _) (upd H r (.lst [.int a, .int c]))
    generalize upd H r (.lst [.int a, .int c]) = H1 at hr1 hs
    have q2 : atI [V.int a, V.int c] 1 = some (V.int c) := rfl
    refine ⟨_, rfl, r, _, 1, _, rfl, rfl, SqL.of hr1, q2, _, rfl, r, _, 1, _, rfl, rfl, SqL.of hr1, q2, _, _, rfl, rfl, .inl ⟨by omega, by omega⟩, .inl ⟨_, rfl, ?_⟩⟩
    have hc : 0 ≤ c * c := Int.mul_nonneg hm.1 hm.1
    refine ⟨_, _, rfl, rfl, (show (0 : Int) < 2147483563 by decide), _, _, rfl, rfl, ⟨by decide, by decide⟩, .inl ⟨_, rfl, _, rfl, _, _, rfl, rfl, by omega, ?_⟩⟩
    generalize c * c % 2147483563 / 13 = z
    have hz : 0 ≤ z % (m : Int) ∧ z % (m : Int) < m := ⟨Int.emod_nonneg _ (by omega), Int.emod_lt_of_pos _ (by omega)⟩
    have e : z % (m : Int) = ((z % (m : Int)).toNat : Int) := by omega
    show Q (.int (z % (m : Int))) _
    rw [e]
    exact k _ _ (by omega) ⟨⟨a, c, hr1, ha, hm.1, by omega⟩, hs⟩
/-! ### rng -/
def spRng (K : PySem.W.Frag) : Sp := fun vs H Q _ => ∃ (p : Addr) (ns : List Int) (i : Nat), vs = [.ref p, .int (i : Int)] ∧ SqL K H p (ns.map V.int) ∧ ns.length ≤ 100000 ∧ i < 100 ∧
  ∀ r H', Same H H' → H r = none → RngAt r H' → Q (.ref r) H'
abbrev s__law_rng : Stmt := top 42
abbrev n__law_rng : List Str := ["_law_script", "_law_k", "_law_cell"]
theorem sc__law_rng : FnScope n__law_rng ["_law_script", "_law_k"] (defScope s__law_rng) := ⟨rfl, rfl, rfl, by decide +kernel, rfl, by decide +kernel, by decide +kernel⟩
theorem ok_rng (T : Tx K mg) : Cl CX0 P w K mg base 1 "_law_rng" (spRng K) := by
  refine cl0 T.f__law_rng sc__law_rng (fun _ _ _ _ _ _ us hl => match us, hl with | [_, _], _ => rfl) (fun vs H Q E h => ?_) (fun f cdv A outer s H vs Q E hr h => ?_)
  · obtain ⟨p, ns, i, rfl, _⟩ := h
    rfl
  obtain ⟨p, ns, i, rfl, hp, hn, hi, k⟩ := h
  refine ⟨_, (pss_cons (ps_set (i := 2) sc__law_rng.nd rfl (Or.inl rfl) (pe_ifExp (pt_cmpR op_lt (pv 1) (pe_callB (id := "len") (lenK (K := K)) (by rfl) T.b_len (by decide +kernel) (pa_cons (pv 0) pa_nil)) (nomark _)) (pe_callB (id := "abs") call_abs (by rfl) T.b_abs (by decide +kernel) (pa_cons (pe_ix (ixL (K := K)) (pv 0) (pv 1) (fun _ _ => rfl)) pa_nil)) pe_int))
      (pss_one (ps_ret (pe_lst (pa_cons (pe_callB (id := "max") (call_max2 rfl) (by rfl) T.b_max (by decide +kernel) (pa_cons pe_int (pa_cons (pe_op op_sub (pv 2) (pe_op op_pow pe_int pe_int)) pa_nil))) (pa_cons (pe_op op_add (pe_op op_mod (pe_callTy (T := "int") call_int1 (by rfl) T.b_int (by decide +kernel) (pa_cons (pe_op op_pow (pe_op op_add (pe_op op_add (pe_op op_mod (pe_callTy (T := "int") call_int1 (by rfl) T.b_int (by decide +kernel) (pa_cons (pv 2) pa_nil)) pe_int) (pe_op op_mul pe_int (pv 1))) pe_int) pe_int) pa_nil)) pe_int) pe_int) pa_nil)))))), ?_⟩
  refine ⟨_, rfl, _, rfl, _, ns.length, rfl, .inl ⟨_, hp, by rw [List.length_map]⟩, _, _, rfl, rfl, _, rfl, ?_⟩
  have hn' : (decide ((i : Int) < ((ns.length : Nat) : Int)) = true) → ∃ n, ns[i]? = some n := fun h => by
    have := of_decide_eq_true h
    exact ⟨_, List.getElem?_eq_getElem (by omega)⟩
  have fin : ∀ (c z : Int), 0 ≤ c → ∀ p, H p = none → Q (.ref p) (upd H p (.lst [.int (if 0 < c - 10 ^ 18 then c - 10 ^ 18 else 0), .int (z % 2147483477 + 1)])) := fun c z hc p hp => by
    have hz : 0 ≤ z % 2147483477 ∧ z % 2147483477 < 2147483477 := ⟨Int.emod_nonneg _ (by omega), Int.emod_lt_of_pos _ (by omega)⟩
    refine k p _ (Same.new hp) hp ⟨_, _, upd_same, ?_, by omega, by omega⟩
    split <;> omega
  have hpw : ∀ c : Int, CPow (c % 2147483549 + 4127 * (i : Int) + 29) 2 := fun c => by
    have hz : 0 ≤ c % 2147483549 ∧ c % 2147483549 < 2147483549 := ⟨Int.emod_nonneg _ (by omega), Int.emod_lt_of_pos _ (by omega)⟩
    refine ⟨by decide, by decide, ?_⟩
    omega
  refine ite2 (fun hc => ?_) (fun hc => ?_)
  · obtain ⟨n, hn⟩ := hn' hc
    refine ⟨_, rfl, _, rfl, p, _, i, .int n, rfl, rfl, hp, ?_, n, rfl, ?_⟩
    · unfold atI ixN
      rw [if_pos (by omega), if_pos (by rw [List.length_map]; exact of_decide_eq_true hc)]
      show (ns.map V.int)[(i : Int).toNat]? = _
      rw [Int.toNat_natCast, List.getElem?_map, hn]
      rfl
    · have hcc : 0 ≤ if n < 0 then -n else n := by split <;> omega
      generalize (if n < 0 then -n else n) = c at hcc
      refine ⟨_, rfl, _, _, rfl, rfl, ⟨by decide, by decide, by decide⟩, _, _, rfl, rfl, _, _, rfl, _, rfl, .inl ⟨_, rfl, _, _, rfl, rfl, (show (0 : Int) < 2147483549 by decide), _, rfl, _, _, rfl, rfl, .inl ⟨by decide, by decide⟩, _, _, rfl, rfl, _, _, rfl, rfl, _, _, rfl, rfl, hpw _, .inl ⟨_, rfl, _, _, rfl, rfl, (show (0 : Int) < 2147483477 by decide), _, _, rfl, rfl, szl (Nat.le_of_ble_eq_true rfl), fun p hp => fin _ _ hcc p hp⟩⟩⟩
  · refine ⟨_, rfl, _, _, rfl, rfl, ⟨by decide, by decide, by decide⟩, _, _, rfl, rfl, _, _, rfl, _, rfl, .inl ⟨_, rfl, _, _, rfl, rfl, (show (0 : Int) < 2147483549 by decide), _, rfl, _, _, rfl, rfl, .inl ⟨by decide, by decide⟩, _, _, rfl, rfl, _, _, rfl, rfl, _, _, rfl, rfl, hpw _, .inl ⟨_, rfl, _, _, rfl, rfl, (show (0 : Int) < 2147483477 by decide), _, _, rfl, rfl, szl (Nat.le_of_ble_eq_true rfl), fun p hp => fin _ _ (Int.le_refl 0) p hp⟩⟩⟩
end
end Abv
set_option Elab.async false
set_option linter.all false
set_option maxRecDepth 100000
set_option maxHeartbeats 4000000
/-! ## choice, values and keys drawn -/
namespace Abv
open PySem PySem.Spec PyProof.Rows L2
/-- a text times an int -/
def repStr (z : Str) (n : Nat) : Str := ⟨(List.replicate n z.cps).foldl (· ++ ·) #[]⟩
def rRepS : R2 := fun x y H Q => ∃ z i, x = .str z ∧ y = .int i ∧ 1 < i ∧ i < 1000 ∧ z.length = 1 ∧ Q (.str (repStr z i.toNat)) H
theorem op_repS {X : Cx} : OpR X (binaryOp .Mult) rRepS := by
  intro pins s σ H x y v u Q I rx ry h
  obtain ⟨z, i, rfl, rfl, h1, h2, hz, q⟩ := h
  obtain ⟨t, rfl⟩ := rx
  obtain ⟨t', rfl⟩ := ry
  have hl : Builtin.Str.tooLong (z.length * i.toNat) = false := by
    unfold Builtin.Str.tooLong
    rw [hz, sizeLine_eq]
    refine decide_eq_false ?_
    omega
  refine P.mul_str (by simp only [Bool.or_eq_false_iff, decide_eq_false_iff_not]; omega) (fun _ _ => ?_) (fun _ _ => hl) ?_
  · rw [hz]
    have : (1 : Int) ≤ (2 ^ 63 - 1) / i := (Int.le_ediv_iff_mul_le (by omega)).mpr (by omega)
    omega
  · rw [if_neg (by omega), if_neg (by rw [hz]; simp; omega)]
    have hf := fits_reps (x := z) (k := i.toNat) hl
    exact ⟨hf, .str _, H, I.tok _, ⟨_, rfl⟩, q⟩
theorem rep60 : repStr "z" 60 = z60 := by decide +kernel
theorem SB.lstK {K : PySem.W.Frag} {D : Addr} {H H' : Hp} (e : SB D H H') {a : Addr} {xs : List V} (h : SqL K H a xs) (n : a ≠ D) : SqL K H' a xs := by
  rcases h with (h | ⟨o, h⟩) | h
  · exact .inl (.inl (e _ _ h n))
  · exact .inl (.inr ⟨o, e _ _ h n⟩)
  · exact .inr h
section
variable {P : Program} {w : World} {K : PySem.W.Frag} {mg : Str → Option Value} {base : Heap}
def spChoice (K : PySem.W.Frag) : Sp := fun vs H Q _ => ∃ (r p : Addr) (xs : List V), vs = [.ref r, .ref p] ∧ SqL K H p xs ∧ p ≠ r ∧ 0 < xs.length ∧ xs.length < 1000 ∧ RngAt r H ∧
  ∀ v H', v ∈ xs → MR r H H' → Q v H'
abbrev s__law_choice : Stmt := top 44
abbrev n__law_choice : List Str := ["_law_rng_here", "_law_options"]
theorem sc__law_choice : FnScope n__law_choice ["_law_rng_here", "_law_options"] (defScope s__law_choice) := ⟨rfl, rfl, rfl, by decide +kernel, rfl, by decide +kernel, by decide +kernel⟩
theorem ok_choice (T : Tx K mg) : Cl CX0 P w K mg base 2 "_law_choice" (spChoice K) := by
  have C__law_draw : Cl CX0 P w K mg base 1 "_law_draw" (spDraw K) := ok_draw T
  refine cl0 T.f__law_choice sc__law_choice (fun _ _ _ _ _ _ us hl => match us, hl with | [_, _], _ => rfl) (fun vs H Q E h => ?_) (fun f cdv A outer s H vs Q E hr h => ?_)
  · obtain ⟨r, p, xs, rfl, _⟩ := h
    rfl
  obtain ⟨r, p, xs, rfl, hp, hn, h0, h1, hR, k⟩ := h
  refine ⟨_, (pss_one (ps_ret (pe_ix (ixL (K := K)) (pv 1) (pe_cl C__law_draw hr (by decide) pass0 rfl (pa_cons (pv 0) (pa_cons (pe_callB (id := "len") (lenK (K := K)) (by rfl) T.b_len (by decide +kernel) (pa_cons (pv 1) pa_nil)) pa_nil))) (fun _ _ => rfl)))), ?_⟩
  refine ⟨_, rfl, _, rfl, _, rfl, _, xs.length, rfl, .inl ⟨xs, hp, rfl⟩, r, xs.length, rfl, h0, h1, hR, fun i H' hi m => ?_⟩
  refine ⟨p, xs, i, xs[i], rfl, rfl, m.2.lstK hp hn, ?_, k _ _ (List.getElem_mem hi) m⟩
  unfold atI ixN
  rw [if_pos (by omega), if_pos (by omega)]
  show xs[(i : Int).toNat]? = _
  rw [Int.toNat_natCast, List.getElem?_eq_getElem hi]
def spMenu (K : PySem.W.Frag) (xs : List V) : Sp := fun vs H Q _ => ∃ (r : Addr), vs = [.ref r] ∧ RngAt r H ∧ ∀ v H', v ∈ xs → MR r H H' → Q v H'
/-- a choice of a list just made -/
theorem menu_go {r : Addr} {H : Hp} {xs : List V} {Q : VK} {E : XK} (hR : RngAt r H) (h0 : 0 < xs.length) (h1 : xs.length < 1000) (k : ∀ v H', v ∈ xs → MR r H H' → Q v H') :
    ∀ p, H p = none → spChoice K [.ref r, .ref p] (upd H p (.lst xs)) Q E := fun p hp => by
  have e := Same.new (u := .lst xs) hp
  refine ⟨r, p, xs, rfl, SqL.of upd_same, ?_, h0, h1, hR.same e, fun v H' hv m => k v H' hv ((MR.of e hR).trans m)⟩
  obtain ⟨a, b, h, _⟩ := hR
  exact Ne.symm (ne_of_none h hp)
abbrev s__law_some_value : Stmt := top 54
abbrev n__law_some_value : List Str := ["_law_rng_here"]
theorem sc__law_some_value : FnScope n__law_some_value ["_law_rng_here"] (defScope s__law_some_value) := ⟨rfl, rfl, rfl, by decide +kernel, rfl, by decide +kernel, by decide +kernel⟩
theorem ok_someV (T : Tx K mg) : Cl CX0 P w K mg base 3 "_law_some_value" (spMenu K menuV) := by
  have C__law_choice : Cl CX0 P w K mg base 2 "_law_choice" (spChoice K) := ok_choice T
  refine cl0 T.f__law_some_value sc__law_some_value (fun _ _ _ _ _ _ us hl => match us, hl with | [_], _ => rfl) (fun vs H Q E h => ?_) (fun f cdv A outer s H vs Q E hr h => ?_)
  · obtain ⟨r, rfl, _⟩ := h
    rfl
  obtain ⟨r, rfl, hR, k⟩ := h
  refine ⟨_, (pss_one (ps_ret (pe_cl C__law_choice hr (by decide) pass0 rfl (pa_cons (pv 0) (pa_cons (pe_lst (pa_cons pe_int (pa_cons pe_int (pa_cons pe_int (pa_cons (pe_un un_neg pe_int) (pa_cons pe_bl (pa_cons pe_bl (pa_cons pe_str (pa_cons pe_str (pa_cons pe_str (pa_cons pe_str (pa_cons (pe_op op_sub (pe_op op_pow pe_int pe_int) pe_int) (pa_cons (pe_op op_repS pe_str pe_int) pa_nil))))))))))))) pa_nil))))), ?_⟩
  refine ⟨_, rfl, _, rfl, _, _, rfl, rfl, ⟨by decide, by decide, by decide⟩, _, _, rfl, rfl, ?_⟩
  refine ⟨_, _, rfl, rfl, by decide, by decide, by decide, szl (Nat.le_of_ble_eq_true rfl), fun p hp => menu_go (K := K) (E := E0) hR (by simp) (by simp) (fun v H' hv m => k v H' ?_ m) p hp⟩
  have e : repStr (Str.ofString "z") (Int.toNat 60) = z60 := rep60
  rw [e] at hv
  simp only [List.mem_cons, List.not_mem_nil, or_false] at hv
  unfold menuV
  simp only [List.mem_cons, List.not_mem_nil, or_false]
  rcases hv with rfl | rfl | rfl | rfl | rfl | rfl | rfl | rfl | rfl | rfl | rfl | rfl <;> simp <;> rfl
abbrev s__law_some_key : Stmt := top 55
abbrev n__law_some_key : List Str := ["_law_rng_here"]
theorem sc__law_some_key : FnScope n__law_some_key ["_law_rng_here"] (defScope s__law_some_key) := ⟨rfl, rfl, rfl, by decide +kernel, rfl, by decide +kernel, by decide +kernel⟩
theorem ok_someK (T : Tx K mg) : Cl CX0 P w K mg base 3 "_law_some_key" (spMenu K menuK) := by
  have C__law_choice : Cl CX0 P w K mg base 2 "_law_choice" (spChoice K) := ok_choice T
  refine cl0 T.f__law_some_key sc__law_some_key (fun _ _ _ _ _ _ us hl => match us, hl with | [_], _ => rfl) (fun vs H Q E h => ?_) (fun f cdv A outer s H vs Q E hr h => ?_)
  · obtain ⟨r, rfl, _⟩ := h
    rfl
  obtain ⟨r, rfl, hR, k⟩ := h
  refine ⟨_, (pss_one (ps_ret (pe_cl C__law_choice hr (by decide) pass0 rfl (pa_cons (pv 0) (pa_cons (pe_lst (pa_cons pe_int (pa_cons pe_int (pa_cons pe_int (pa_cons pe_int (pa_cons (pe_un un_neg pe_int) (pa_cons pe_str (pa_cons pe_str (pa_cons pe_str (pa_cons pe_str (pa_cons (pe_op op_repS pe_str pe_int) (pa_cons (pe_op op_sub (pe_op op_pow pe_int pe_int) pe_int) (pa_cons pe_int pa_nil))))))))))))) pa_nil))))), ?_⟩
  refine ⟨_, rfl, _, rfl, ?_⟩
  refine ⟨_, _, rfl, rfl, by decide, by decide, by decide, _, _, rfl, rfl, ⟨by decide, by decide, by decide⟩, _, _, rfl, rfl, szl (Nat.le_of_ble_eq_true rfl), fun p hp => menu_go (K := K) (E := E0) hR (by simp) (by simp) (fun v H' hv m => k v H' ?_ m) p hp⟩
  have e : repStr (Str.ofString "z") (Int.toNat 60) = z60 := rep60
  rw [e] at hv
  simp only [List.mem_cons, List.not_mem_nil, or_false] at hv
  unfold menuK
  simp only [List.mem_cons, List.not_mem_nil, or_false]
  rcases hv with rfl | rfl | rfl | rfl | rfl | rfl | rfl | rfl | rfl | rfl | rfl | rfl <;> simp <;> rfl
end
end Abv
set_option Elab.async false
set_option linter.all false
set_option maxRecDepth 100000
set_option maxHeartbeats 4000000
/-! ## names drawn -/
namespace Abv
open PySem PySem.Spec PyProof.Rows L2
/-- a comprehension over a range whose items are only told of -/
theorem lcP {n : Nat} {g : TG} {te : TE} {vs : List Nat} {σ : L2.St} {H1 : Hp} {D r : Addr} {Qd : Hp → Prop} (Z : V → Prop) (hR : RngAt r H1) (nD : H1 D = none) (hn : n ≤ 100000)
    (hs : ∀ (i : Nat) H (S : VK), i < n → MR r H1 H → (∀ y H', MR r H H' → Z y → S y H') → g (.int (i : Int)) (wipe σ vs) H fun σ2 H2 => wipe σ2 vs = wipe σ vs ∧ te σ2 H2 S)
    (hd : ∀ H ys, MR r H1 H → H D = some (.lst ys) → ys.length = n → (∀ y ∈ ys, Z y) → Qd H) :
    ∃ W : Nat → Nat → Hp → Prop, (∃ m, W 0 m (upd H1 D (.lst []))) ∧ ∀ i m H, W i m H →
      ((Itr 0 n).stop i H ∧ Qd H) ∨ ((Itr 0 n).go i H ∧ ∃ Nx : Hp → Prop, (∀ H', Nx H' → ∃ m', m' < m ∧ W (i + 1) m' H') ∧ ∀ x H', (Itr 0 n).yld i H x H' → g x (wipe σ vs) H' fun σ2 H2 => wipe σ2 vs = wipe σ vs ∧ tYes σ2 H2 fun b H3 =>
        if b = true then te σ2 H3 fun y H4 => ∃ acc, H4 D = some (.lst acc) ∧ acc.length < sizeLine ∧ Nx (upd H4 D (.lst (acc ++ [y]))) else Nx H3) := by
  have hrD : r ≠ D := by
    obtain ⟨a, b, h, _⟩ := hR
    exact ne_of_none h nD
  have mu : ∀ {H : Hp} {o : HO}, MR r H1 H → MR r H1 (upd H D o) := fun {H o} m => by
    refine ⟨?_, fun b u hb hn => ?_⟩
    · obtain ⟨a, b, h, q⟩ := m.1
      exact ⟨a, b, by rw [upd_ne hrD]; exact h, q⟩
    · rw [upd_ne (ne_of_none hb nD)]
      exact m.2 _ _ hb hn
  refine ⟨fun i m H => m = n - i ∧ i ≤ n ∧ MR r H1 H ∧ ∃ ys, H D = some (.lst ys) ∧ ys.length = i ∧ ∀ y ∈ ys, Z y, ⟨n, rfl, Nat.zero_le _, mu (MR.refl hR), [], upd_same, rfl, fun y h => by cases h⟩, ?_⟩
  rintro i m H ⟨rfl, hi, hM, ys, hD, hl, hz⟩
  by_cases hlt : i < n
  · refine Or.inr ⟨hlt, fun H' => i + 1 ≤ n ∧ MR r H1 H' ∧ ∃ ys, H' D = some (.lst ys) ∧ ys.length = i + 1 ∧ ∀ y ∈ ys, Z y, fun H' q => ⟨n - (i + 1), by omega, rfl, q⟩, fun x H' hyl => ?_⟩
    obtain ⟨rfl, rfl⟩ := hyl
    rw [Int.zero_add]
    have h := hs i H' (fun y H4 => ∃ acc, H4 D = some (.lst acc) ∧ acc.length < sizeLine ∧ (i + 1 ≤ n ∧ MR r H1 (upd H4 D (.lst (acc ++ [y]))) ∧ ∃ ys, (upd H4 D (.lst (acc ++ [y]))) D = some (.lst ys) ∧ ys.length = i + 1 ∧ ∀ y ∈ ys, Z y)) hlt hM fun y H4 m hy => ?_
    · exact h
    refine ⟨ys, m.2 _ _ hD (Ne.symm hrD), by rw [hl, sizeLine_eq]; omega, hlt, mu (hM.trans m), ys ++ [y], upd_same, by rw [List.length_append, hl]; rfl, fun z hz2 => ?_⟩
    rcases List.mem_append.mp hz2 with h | h
    · exact hz z h
    · rw [List.mem_singleton.mp h]
      exact hy
  · have : i = n := by omega
    subst this
    exact Or.inl ⟨Nat.le_refl _, hd H ys hM hD hl hz⟩
def abc : Str := "abcdefghijklmnopqrstuvwxyz"
theorem abc_at : ∀ i : Nat, i < 26 → abc.cps.toList[i]? = some (97 + i) := by decide +kernel
theorem abc_len : abc.length = 26 := by decide +kernel
theorem atI_nat {α : Type} {xs : List α} {i : Nat} {x : α} (h : xs[i]? = some x) : atI xs (i : Int) = some x := by
  have hl := (List.getElem?_eq_some_iff.mp h).1
  unfold atI ixN
  rw [if_pos (by omega), if_pos (by omega)]
  show xs[(i : Int).toNat]? = _
  rw [Int.toNat_natCast, h]
/-- letters -/
def chrs (cs : List Nat) : List V := cs.map fun c => V.str ⟨#[c]⟩
theorem chrs_of : ∀ {ys : List V}, (∀ y ∈ ys, ∃ c : Nat, y = .str ⟨#[c]⟩ ∧ 97 ≤ c ∧ c ≤ 122) → ∃ cs, ys = chrs cs ∧ ∀ c ∈ cs, 97 ≤ c ∧ c ≤ 122
  | [], _ => ⟨[], rfl, fun c h => by cases h⟩
  | y :: ys, h => by
    obtain ⟨c, rfl, hc⟩ := h y (List.mem_cons_self ..)
    obtain ⟨cs, rfl, hcs⟩ := chrs_of fun y hy => h y (List.mem_cons_of_mem _ hy)
    refine ⟨c :: cs, rfl, fun d hd => ?_⟩
    rcases List.mem_cons.mp hd with rfl | hd
    · exact hc
    · exact hcs d hd
theorem chrs_strs (cs : List Nat) : chrs cs = ((cs.map fun c => [c]).map SX.S).map V.str := by
  unfold chrs
  rw [List.map_map, List.map_map]
  rfl
theorem join_chrs : ∀ cs : List Nat, TL.joinL [] (cs.map fun c => [c]) = cs
  | [] => rfl
  | [c] => rfl
  | c :: d :: r => by
    show [c] ++ ([] ++ TL.joinL [] ((d :: r).map fun c => [c])) = _
    rw [join_chrs (d :: r)]
    rfl
theorem join_word (cs : List Nat) : Txt.join Str.empty ((cs.map fun c => [c]).map SX.S) = SX.S cs := by
  have h := SX.join_S [] (cs.map fun c => [c])
  rw [join_chrs] at h
  exact h
/-- the name with the k-th end -/
def endW (x : Str) (k : Nat) : Str := cutS x none (some 6) ++ (⟨#[97 + k / 26]⟩ : Str) ++ (⟨#[97 + k % 26]⟩ : Str)
theorem sIx6 (n : Nat) : HT.sIx n n (some 6) ≤ 6 := by
  unfold HT.sIx
  simp
  omega
theorem endW_tl (x : Str) (k : Nat) : (endW x k).cps.toList = (cutS x none (some 6)).cps.toList ++ [97 + k / 26, 97 + k % 26] := by
  show (((cutS x none (some 6)).cps ++ #[97 + k / 26]) ++ #[97 + k % 26]).toList = _
  simp
theorem endW_ok {x : Str} (h : NameOk x) {k : Nat} (hk : k < 676) : NameOk (endW x k) := by
  have e := endW_tl x k
  have hl : (endW x k).length = (cutS x none (some 6)).length + 2 := by
    show (endW x k).cps.size = (cutS x none (some 6)).cps.size + 2
    rw [← Array.length_toList, e, List.length_append, Array.length_toList]
    rfl
  have h6 : (cutS x none (some 6)).length ≤ 6 := by
    have := sIx6 x.length
    show (((x.cps.toList.drop (HT.sIx x.length 0 none)).take (HT.sIx x.length x.length (some 6) - HT.sIx x.length 0 none)).toArray).size ≤ 6
    rw [List.size_toArray, List.length_take]
    omega
  refine ⟨by omega, by omega, fun c hc => ?_⟩
  rw [e] at hc
  rcases List.mem_append.mp hc with hc | hc
  · have : c ∈ x.cps.toList := List.mem_of_mem_drop (List.mem_of_mem_take hc)
    exact h.2.2 c this
  · simp only [List.mem_cons, List.not_mem_nil, or_false] at hc
    omega
theorem endW_ne {x : Str} {i j : Nat} (h : i < 26) (h' : j < 26) (n : i ≠ j) : endW x i ≠ endW x j := fun e => by
  have e2 := congrArg (fun z : Str => z.cps.toList) e
  simp only [endW_tl] at e2
  have := List.append_cancel_left e2
  simp at this
  omega
/-- the fresh names -/
def fresh (x : Str) : List Str := x :: (List.range 676).map (endW x)
theorem fresh_ne {x : Str} {used : List Str} (h : used.length ≤ 2) : (fresh x).filter (fun s => !decide (s ∈ used)) ≠ [] := by
  intro e
  have h3 : ∀ i, i < 3 → endW x i ∈ used := fun i hi => by
    have hm : endW x i ∈ fresh x := List.mem_cons_of_mem _ (List.mem_map_of_mem (List.mem_range.mpr (by omega)))
    have := List.filter_eq_nil_iff.mp e _ hm
    simpa using this
  have hs : ([endW x 0, endW x 1, endW x 2] : List Str).Nodup := by
    simp only [List.nodup_cons, List.mem_cons, List.not_mem_nil, or_false, not_or, not_false_eq_true, List.nodup_nil, and_true]
    exact ⟨⟨endW_ne (by omega) (by omega) (by omega), endW_ne (by omega) (by omega) (by omega)⟩, endW_ne (by omega) (by omega) (by omega)⟩
  have hsub : ([endW x 0, endW x 1, endW x 2] : List Str) ⊆ used := fun z hz => by
    simp only [List.mem_cons, List.not_mem_nil, or_false] at hz
    rcases hz with rfl | rfl | rfl
    · exact h3 0 (by omega)
    · exact h3 1 (by omega)
    · exact h3 2 (by omega)
  have := hs.length_le_of_subset hsub
  simp at this
  omega
def words : List Str := ["none", "add", "select", "items", "count", "gone", "empty", "label"]
instance (s : Str) : Decidable (NameOk s) := by unfold NameOk; infer_instance
theorem words_ok : ∀ x ∈ words, NameOk x := by decide +kernel
section
variable {P : Program} {w : World} {K : PySem.W.Frag} {mg : Str → Option Value} {base : Heap}
def spName (K : PySem.W.Frag) : Sp := fun vs H Q _ => ∃ (r u : Addr) (used : List Str), vs = [.ref r, .ref u] ∧ RngAt r H ∧ H u = some (.lst (used.map V.str)) ∧ u ≠ r ∧ used.length ≤ 2 ∧
  ∀ x H', NameOk x → x ∉ used → MR r H H' → Q (.str x) H'
abbrev s__law_name : Stmt := top 45
abbrev n__law_name : List Str := ["_law_rng_here", "_law_used", "_law_letters", "_law_length", "_law_word", "_law_fresh", "_law_k", "_law_one"]
theorem sc__law_name : FnScope n__law_name ["_law_rng_here", "_law_used"] (defScope s__law_name) := ⟨rfl, rfl, rfl, by decide +kernel, rfl, by decide +kernel, by decide +kernel⟩
theorem ok_name (T : Tx K mg) : Cl CX0 P w K mg base 2 "_law_name" (spName K) := by
  have C__law_draw : Cl CX0 P w K mg base 1 "_law_draw" (spDraw K) := ok_draw T
  refine cl0 T.f__law_name sc__law_name (fun _ _ _ _ _ _ us hl => match us, hl with | [_, _], _ => rfl) (fun vs H Q E h => ?_) (fun f cdv A outer s H vs Q E hr h => ?_)
  · obtain ⟨r, u, used, rfl, _⟩ := h
    rfl
  obtain ⟨r, u, used, rfl, hR, hu, hur, hl, k⟩ := h
  refine ⟨_, (pss_cons (ps_set (i := 2) sc__law_name.nd rfl (Or.inr rfl) pe_str)
      (pss_cons (ps_set (i := 3) sc__law_name.nd rfl (Or.inl rfl) (pe_ix (ixL (K := K)) (pe_lst (pa_cons pe_int (pa_cons pe_int (pa_cons pe_int (pa_cons (pe_op op_add pe_int (pe_cl C__law_draw hr (by decide) pass0 rfl (pa_cons (pv 0) (pa_cons pe_int pa_nil)))) pa_nil))))) (pe_cl C__law_draw hr (by decide) pass0 rfl (pa_cons (pv 0) (pa_cons pe_int pa_nil))) (fun _ _ => rfl)))
      (pss_cons (ps_set (i := 4) sc__law_name.nd rfl (Or.inr rfl) (pe_joinK (K := K) pe_str (pe_lc (own := [("_law_k", 6)]) rfl sc__law_name.nd (pi_range1 rfl T.b_range (pa_cons (pv 3) pa_nil)) (blkOk_by (own := [("_law_k", 6)]) (N := n__law_name) (sc := defScope s__law_name) (by decide +kernel)) (fun _ _ _ _ _ => (pg_name (i := 6) sc__law_name.nd rfl (Or.inl rfl))) (fun _ _ _ _ _ => pts_nil) (fun _ _ _ _ _ => (pe_ix ix_str (pv 2) (pe_cl C__law_draw hr (by decide) pass0 rfl (pa_cons (pv 0) (pa_cons pe_int pa_nil))) (fun _ _ => rfl))))))
      (pss_cons (ps_if (pt_cmpR op_eq (pe_cl C__law_draw hr (by decide) pass0 rfl (pa_cons (pv 0) (pa_cons pe_int pa_nil))) pe_int (nomark _)) (pss_one (ps_set (i := 4) sc__law_name.nd rfl (Or.inr rfl) (pe_ix (ixL (K := K)) (pe_lst (pa_cons pe_str (pa_cons pe_str (pa_cons pe_str (pa_cons pe_str (pa_cons pe_str (pa_cons pe_str (pa_cons pe_str (pa_cons pe_str pa_nil))))))))) (pe_cl C__law_draw hr (by decide) pass0 rfl (pa_cons (pv 0) (pa_cons pe_int pa_nil))) (fun _ _ => rfl)))) pss_nil)
      (pss_cons (ps_set (i := 5) sc__law_name.nd rfl (Or.inl rfl) (pe_op op_cat (pe_lst (pa_cons (pv 4) pa_nil)) (pe_lc (own := [("_law_k", 6)]) rfl sc__law_name.nd (pi_range1 rfl T.b_range (pa_cons pe_int pa_nil)) (blkOk_by (own := [("_law_k", 6)]) (N := n__law_name) (sc := defScope s__law_name) (by decide +kernel)) (fun _ _ _ _ _ => (pg_name (i := 6) sc__law_name.nd rfl (Or.inl rfl))) (fun _ _ _ _ _ => pts_nil) (fun _ _ _ _ _ => (pe_op op_add_str (pe_op op_add_str (pe_slice sl_str (pv 4) po_none (po_some pe_int)) (pe_ix ix_str (pv 2) (pe_op op_fdiv (pv 6) pe_int) (fun _ _ => rfl))) (pe_ix ix_str (pv 2) (pe_op op_mod (pv 6) pe_int) (fun _ _ => rfl)))))))
      (pss_one (ps_ret (pe_ix (ixL (K := K)) (pe_lc (own := [("_law_one", 7)]) rfl sc__law_name.nd (pi_listK (K := K) (pv 5)) (blkOk_by (own := [("_law_one", 7)]) (N := n__law_name) (sc := defScope s__law_name) (by decide +kernel)) (fun _ _ _ _ _ => (pg_name (i := 7) sc__law_name.nd rfl (Or.inl rfl))) (fun _ _ _ _ _ => pts_one (pt_cmpR (niQ (K := K)) (pv 7) (pv 1) (by rfl))) (fun _ _ _ _ _ => (pv 7))) pe_int (fun _ _ => rfl))))))))), ?_⟩
  -- the length
  refine ⟨_, rfl, r, 8, rfl, by omega, by omega, hR, fun i1 H1 h1 m1 => ⟨_, _, rfl, rfl, szl (Nat.le_of_ble_eq_true rfl), fun p hp => ?_⟩⟩
  have mN : ∀ {H0 : Hp} {p : Addr} {o : HO}, MR r H H0 → H0 p = none → MR r H (upd H0 p o) := fun m h => m.trans (MR.of (Same.new h) m.1)
  have m1' := mN (o := .lst [.int 1, .int 1, .int 2, .int (1 + (i1 : Int))]) m1 hp
  have hpr : p ≠ r := by
    obtain ⟨a, b, h, _⟩ := m1.1
    exact Ne.symm (ne_of_none h hp)
  refine ⟨_, rfl, r, 4, rfl, by omega, by omega, m1'.1, fun i2 H2 h2 m2 => ?_⟩
  obtain ⟨L, hL, hL1, hL8⟩ : ∃ L : Nat, [V.int 1, V.int 1, V.int 2, V.int (1 + (i1 : Int))][i2]? = some (.int (L : Int)) ∧ 1 ≤ L ∧ L ≤ 8 := by
    obtain rfl | rfl | rfl | rfl : i2 = 0 ∨ i2 = 1 ∨ i2 = 2 ∨ i2 = 3 := by omega
    · exact ⟨1, rfl, by omega, by omega⟩
    · exact ⟨1, rfl, by omega, by omega⟩
    · exact ⟨2, rfl, by omega, by omega⟩
    · exact ⟨1 + i1, by simp, by omega, by omega⟩
  refine ⟨p, _, i2, _, rfl, rfl, SqL.of (m2.2 _ _ upd_same hpr), atI_nat hL, ?_⟩
  have M2 := m1'.trans m2
  -- the word
  refine ⟨⟨_, rfl⟩, _, rfl, L, rfl, by omega, by omega, fun D nD => ?_⟩
  refine lcP (fun y => ∃ c : Nat, y = .str ⟨#[c]⟩ ∧ 97 ≤ c ∧ c ≤ 122) M2.1 nD (by show L ≤ 100000; omega) (fun i H3 S hi m3 hS => ⟨rfl, ?_⟩) (fun H3 ys m3 hD hyl hz => ?_)
  · refine ⟨_, rfl, _, rfl, r, 26, rfl, by omega, by omega, m3.1, fun j H4 hj m4 => ⟨_, _, _, rfl, rfl, by show abc.length ≤ _; exact szl (by rw [abc_len]; omega), atI_nat (abc_at j hj), hS _ _ m4 ⟨97 + j, rfl, by omega, by omega⟩⟩⟩
  have hyl : ys.length = L := hyl
  obtain ⟨cs, rfl, hcs⟩ := chrs_of hz
  have hcl : cs.length = L := by
    rw [← hyl]
    unfold chrs
    rw [List.length_map]
  refine ⟨_, D, _, rfl, rfl, .inl (SqL.of (by rw [← chrs_strs]; exact hD)), ?_, ?_⟩
  · have e : ((((cs.map fun c => [c]).map SX.S)).map (·.length)).sum = cs.length := by
      have : ∀ l : List Nat, ((((l.map fun c => [c]).map SX.S)).map (·.length)).sum = l.length := fun l => by
        induction l with
        | nil => rfl
        | cons a l ih => 
          simp only [List.map_cons, List.sum_cons, ih, List.length_cons]
          show 1 + l.length = _
          omega
      exact this cs
    rw [e]
    simp only [List.length_map]
    show cs.length + cs.length * 0 ≤ _
    omega
  rw [show Txt.join (Str.ofString "") ((cs.map fun c => [c]).map SX.S) = SX.S cs from join_word cs]
  have hW : NameOk (SX.S cs) := ⟨by rw [SX.S_len]; omega, by rw [SX.S_len]; omega, fun c hc => hcs c (by simpa using hc)⟩
  have M3 := M2.trans m3
  generalize SX.S cs = word at hW
  clear hz hD hyl hcs hcl
  -- another word
  refine ⟨_, rfl, r, 8, rfl, by omega, by omega, M3.1, fun i4 H4 h4 m4 => ?_⟩
  have M4 := M3.trans m4
  refine ⟨rfl, _, rfl, ite2 (fun _ => ?_) (fun _ => ?_)⟩
  · refine ⟨szl (Nat.le_of_ble_eq_true rfl), fun q hq => ?_⟩
    have m5 : MR r H (upd H4 q (.lst (words.map V.str))) := mN M4 hq
    have hqr : q ≠ r := by
      obtain ⟨a, b, h, _⟩ := M4.1
      exact Ne.symm (ne_of_none h hq)
    refine ⟨_, rfl, r, 8, rfl, by omega, by omega, m5.1, fun i5 H5 h5 m6 => ?_⟩
    have hw5 : (words.map V.str)[i5]? = some (.str (words.getD i5 "")) := by
      rw [List.getElem?_map, List.getD_eq_getElem?_getD]
      have : i5 < words.length := h5
      rw [List.getElem?_eq_getElem this]
      rfl
    refine ⟨q, words.map V.str, i5, _, rfl, rfl, SqL.of (m6.2 _ _ upd_same hqr), atI_nat hw5, ?_⟩
    have hW : NameOk (words.getD i5 "") := words_ok _ (by
      have := List.mem_of_getElem? hw5
      obtain ⟨x, hx, e⟩ := List.mem_map.mp this
      cases e
      exact hx)
    have M4 := m5.trans m6
    generalize words.getD i5 "" = word at hW
    show (fun x H1 => _) (V.str word) H5
    generalize H5 = H4 at M4
    refine ⟨_, rfl, szl (Nat.le_of_ble_eq_true rfl), fun p5 hp5 => ?_⟩
    refine ⟨_, rfl, by decide, by decide, fun D6 nD6 => ?_⟩
    refine lcR (K := K) (C := CL K) (n := 676) (fun k => some (.str (endW word k))) (fmSame _) nD6 (by decide) (fun i d hi e => by cases e; rfl) (fun i H6 R S hi hM _ hS => ⟨rfl, yes_go ?_⟩) (fun H6 ys hM hD hy => ?_) (fun _ _ => Same.refl _)
    · have hdv : (i : Int) / 26 = ((i / 26 : Nat) : Int) := by omega
      have hmd : (i : Int) % 26 = ((i % 26 : Nat) : Int) := by omega
      refine ⟨_, rfl, 6, rfl, word, rfl, szl (Nat.le_trans hW.2.1 (by decide)), _, rfl, _, rfl, _, _, rfl, rfl, ⟨by decide, by decide⟩, abc, _, 97 + i / 26, rfl, rfl, szl (by rw [abc_len]; omega), ?_, ?_⟩
      · show atI _ ((i : Int) / 26) = _
        rw [hdv]
        exact atI_nat (abc_at _ (by omega))
      have h6 := (endW_ok hW hi).2.1
      refine ⟨_, _, rfl, rfl, ?_, ?_⟩
      · have := cutS_length word none (some 6)
        have := hW.2.1
        rw [sizeLine_eq]
        show _ + 1 ≤ _
        omega
      refine ⟨_, rfl, _, rfl, _, _, rfl, rfl, (show (0 : Int) < 26 by decide), abc, _, 97 + i % 26, rfl, rfl, szl (by rw [abc_len]; omega), ?_, ?_⟩
      · show atI _ ((i : Int) % 26) = _
        rw [hmd]
        exact atI_nat (abc_at _ (by omega))
      refine ⟨_, _, rfl, rfl, ?_, ?_⟩
      · have := cutS_length word none (some 6)
        have := hW.2.1
        rw [str_len_append, sizeLine_eq]
        show _ + 1 + 1 ≤ _
        omega
      exact hS _ _ (.str (endW word i)) (Same.refl _) rfl (show V.str _ = V.str _ from rfl)
    have hys : ys = ((List.range 676).map (endW word)).map V.str := by
      have e : (List.range 676).map (fun k => Dt.str (endW word k)) = ((List.range 676).map (endW word)).map Dt.str := by
        rw [List.map_map]
        rfl
      rw [fm_map, e] at hy
      exact hy.strs
    subst hys
    have e5 := Same.new (u := .lst [.str word]) hp5
    have hp5' : H6 p5 = some (.lst [.str word]) := hM _ _ upd_same
    have fl : (fresh word).length = 677 := by
      unfold fresh
      rw [List.length_cons, List.length_map, List.length_range]
    refine ⟨p5, D6, _, _, rfl, rfl, hp5', hD, by rw [List.length_map, List.length_map, List.length_range]; exact szl (Nat.le_of_ble_eq_true rfl), fun p7 hp7 => ?_⟩
    have ef : [V.str word] ++ ((List.range 676).map (endW word)).map V.str = (fresh word).map V.str := by
      unfold fresh
      rw [List.map_cons]
      rfl
    rw [ef]
    have e7 : Same H4 (upd H6 p7 (.lst ((fresh word).map V.str))) := (e5.trans hM).trans (Same.new hp7)
    have hp7' : upd H6 p7 (.lst ((fresh word).map V.str)) p7 = some (.lst ((fresh word).map V.str)) := upd_same
    have hu7 : upd H6 p7 (.lst ((fresh word).map V.str)) u = some (.lst (used.map V.str)) := e7 _ _ (M4.2 _ _ hu hur)
    show (fun x H1 => _) (V.ref p7) (upd H6 p7 (.lst ((fresh word).map V.str)))
    generalize upd H6 p7 (.lst ((fresh word).map V.str)) = H7 at e7 hp7' hu7
    refine ⟨_, rfl, p7, rfl, ⟨_, SqL.of hp7'⟩, fun D8 nD8 => ?_⟩
    refine lcL (K := K) (C := CL K) (fun i => ((fresh word)[i]?).bind fun x => if (!decide (x ∈ used)) = true then some (.str x) else none) (fmSame H7) nD8 (by rw [List.length_map, fl]; decide) (fun H e => e.seq (SqL.of hp7')) (fun i d _ e => ?_) (fun i z H8 R S hz hM8 hR hS => ?_) (fun H8 ys hM8 hD8 hy => ?_) (fun H _ => Same.refl H)
    · cases hq : (fresh word)[i]? with
      | none =>
        rw [hq] at e
        cases e
      | some x =>
        rw [hq, Option.bind_some] at e
        split at e
        · cases e
          rfl
        · cases e
    · rw [List.getElem?_map, Option.map_eq_some_iff] at hz
      obtain ⟨x, hx, rfl⟩ := hz
      refine ⟨rfl, _, rfl, _, rfl, u, _, rfl, .inl (SqL.of (hM8 _ _ hu7)), rfl, all_flat_strs _, _, rfl, ?_⟩
      rw [inV_strs]
      refine ite2 (fun h => ⟨_, rfl, hS _ _ (.str x) (Same.refl _) ?_ rfl⟩) (fun h => hR _ (Same.refl _) ?_)
      · rw [hx, Option.bind_some]
        exact if_pos h
      · rw [hx, Option.bind_some]
        exact if_neg h
    · rw [List.length_map, fm_list] at hy
      have e : ∀ l : List Str, l.filterMap (fun x => if (!decide (x ∈ used)) = true then some (Dt.str x) else none) = (l.filter fun s => !decide (s ∈ used)).map Dt.str := fun l => by
        induction l with
        | nil => rfl
        | cons a l ih =>
          rw [List.filterMap_cons, List.filter_cons]
          by_cases h : (!decide (a ∈ used)) = true
          · rw [if_pos h, if_pos h, ih]
            rfl
          · rw [if_neg h, if_neg h, ih]
      rw [e] at hy
      have hy := hy.strs
      obtain ⟨x, hx⟩ : ∃ x, ((fresh word).filter fun s => !decide (s ∈ used))[0]? = some x := by
        cases h : (fresh word).filter fun s => !decide (s ∈ used) with
        | nil => exact absurd h (fresh_ne hl)
        | cons x r => exact ⟨x, rfl⟩
      obtain ⟨hxm, hxu⟩ := List.mem_filter.mp (List.mem_of_getElem? hx)
      subst hy
      refine ⟨D8, _, 0, .str x, rfl, rfl, SqL.of hD8, ?_, k x _ ?_ (by simpa using hxu) ⟨(M4.1.same e7).same hM8, M4.2.trans (SB.of (e7.trans hM8))⟩⟩
      · refine atI_nat (i := 0) ?_
        rw [List.getElem?_map, hx]
        rfl
      · unfold fresh at hxm
        rcases List.mem_cons.mp hxm with rfl | hxm
        · exact hW
        · obtain ⟨j, hj, rfl⟩ := List.mem_map.mp hxm
          exact endW_ok hW (List.mem_range.mp hj)
  · refine ⟨_, rfl, szl (Nat.le_of_ble_eq_true rfl), fun p5 hp5 => ?_⟩
    refine ⟨_, rfl, by decide, by decide, fun D6 nD6 => ?_⟩
    refine lcR (K := K) (C := CL K) (n := 676) (fun k => some (.str (endW word k))) (fmSame _) nD6 (by decide) (fun i d hi e => by cases e; rfl) (fun i H6 R S hi hM _ hS => ⟨rfl, yes_go ?_⟩) (fun H6 ys hM hD hy => ?_) (fun _ _ => Same.refl _)
    · have hdv : (i : Int) / 26 = ((i / 26 : Nat) : Int) := by omega
      have hmd : (i : Int) % 26 = ((i % 26 : Nat) : Int) := by omega
      refine ⟨_, rfl, 6, rfl, word, rfl, szl (Nat.le_trans hW.2.1 (by decide)), _, rfl, _, rfl, _, _, rfl, rfl, ⟨by decide, by decide⟩, abc, _, 97 + i / 26, rfl, rfl, szl (by rw [abc_len]; omega), ?_, ?_⟩
      · show atI _ ((i : Int) / 26) = _
        rw [hdv]
        exact atI_nat (abc_at _ (by omega))
      have h6 := (endW_ok hW hi).2.1
      refine ⟨_, _, rfl, rfl, ?_, ?_⟩
      · have := cutS_length word none (some 6)
        have := hW.2.1
        rw [sizeLine_eq]
        show _ + 1 ≤ _
        omega
      refine ⟨_, rfl, _, rfl, _, _, rfl, rfl, (show (0 : Int) < 26 by decide), abc, _, 97 + i % 26, rfl, rfl, szl (by rw [abc_len]; omega), ?_, ?_⟩
      · show atI _ ((i : Int) % 26) = _
        rw [hmd]
        exact atI_nat (abc_at _ (by omega))
      refine ⟨_, _, rfl, rfl, ?_, ?_⟩
      · have := cutS_length word none (some 6)
        have := hW.2.1
        rw [str_len_append, sizeLine_eq]
        show _ + 1 + 1 ≤ _
        omega
      exact hS _ _ (.str (endW word i)) (Same.refl _) rfl (show V.str _ = V.str _ from rfl)
    have hys : ys = ((List.range 676).map (endW word)).map V.str := by
      have e : (List.range 676).map (fun k => Dt.str (endW word k)) = ((List.range 676).map (endW word)).map Dt.str := by
        rw [List.map_map]
        rfl
      rw [fm_map, e] at hy
      exact hy.strs
    subst hys
    have e5 := Same.new (u := .lst [.str word]) hp5
    have hp5' : H6 p5 = some (.lst [.str word]) := hM _ _ upd_same
    have fl : (fresh word).length = 677 := by
      unfold fresh
      rw [List.length_cons, List.length_map, List.length_range]
    refine ⟨p5, D6, _, _, rfl, rfl, hp5', hD, by rw [List.length_map, List.length_map, List.length_range]; exact szl (Nat.le_of_ble_eq_true rfl), fun p7 hp7 => ?_⟩
    have ef : [V.str word] ++ ((List.range 676).map (endW word)).map V.str = (fresh word).map V.str := by
      unfold fresh
      rw [List.map_cons]
      rfl
    rw [ef]
    have e7 : Same H4 (upd H6 p7 (.lst ((fresh word).map V.str))) := (e5.trans hM).trans (Same.new hp7)
    have hp7' : upd H6 p7 (.lst ((fresh word).map V.str)) p7 = some (.lst ((fresh word).map V.str)) := upd_same
    have hu7 : upd H6 p7 (.lst ((fresh word).map V.str)) u = some (.lst (used.map V.str)) := e7 _ _ (M4.2 _ _ hu hur)
    show (fun x H1 => _) (V.ref p7) (upd H6 p7 (.lst ((fresh word).map V.str)))
    generalize upd H6 p7 (.lst ((fresh word).map V.str)) = H7 at e7 hp7' hu7
    refine ⟨_, rfl, p7, rfl, ⟨_, SqL.of hp7'⟩, fun D8 nD8 => ?_⟩
    refine lcL (K := K) (C := CL K) (fun i => ((fresh word)[i]?).bind fun x => if (!decide (x ∈ used)) = true then some (.str x) else none) (fmSame H7) nD8 (by rw [List.length_map, fl]; decide) (fun H e => e.seq (SqL.of hp7')) (fun i d _ e => ?_) (fun i z H8 R S hz hM8 hR hS => ?_) (fun H8 ys hM8 hD8 hy => ?_) (fun H _ => Same.refl H)
    · cases hq : (fresh word)[i]? with
      | none =>
        rw [hq] at e
        cases e
      | some x =>
        rw [hq, Option.bind_some] at e
        split at e
        · cases e
          rfl
        · cases e
    · rw [List.getElem?_map, Option.map_eq_some_iff] at hz
      obtain ⟨x, hx, rfl⟩ := hz
      refine ⟨rfl, _, rfl, _, rfl, u, _, rfl, .inl (SqL.of (hM8 _ _ hu7)), rfl, all_flat_strs _, _, rfl, ?_⟩
      rw [inV_strs]
      refine ite2 (fun h => ⟨_, rfl, hS _ _ (.str x) (Same.refl _) ?_ rfl⟩) (fun h => hR _ (Same.refl _) ?_)
      · rw [hx, Option.bind_some]
        exact if_pos h
      · rw [hx, Option.bind_some]
        exact if_neg h
    · rw [List.length_map, fm_list] at hy
      have e : ∀ l : List Str, l.filterMap (fun x => if (!decide (x ∈ used)) = true then some (Dt.str x) else none) = (l.filter fun s => !decide (s ∈ used)).map Dt.str := fun l => by
        induction l with
        | nil => rfl
        | cons a l ih =>
          rw [List.filterMap_cons, List.filter_cons]
          by_cases h : (!decide (a ∈ used)) = true
          · rw [if_pos h, if_pos h, ih]
            rfl
          · rw [if_neg h, if_neg h, ih]
      rw [e] at hy
      have hy := hy.strs
      obtain ⟨x, hx⟩ : ∃ x, ((fresh word).filter fun s => !decide (s ∈ used))[0]? = some x := by
        cases h : (fresh word).filter fun s => !decide (s ∈ used) with
        | nil => exact absurd h (fresh_ne hl)
        | cons x r => exact ⟨x, rfl⟩
      obtain ⟨hxm, hxu⟩ := List.mem_filter.mp (List.mem_of_getElem? hx)
      subst hy
      refine ⟨D8, _, 0, .str x, rfl, rfl, SqL.of hD8, ?_, k x _ ?_ (by simpa using hxu) ⟨(M4.1.same e7).same hM8, M4.2.trans (SB.of (e7.trans hM8))⟩⟩
      · refine atI_nat (i := 0) ?_
        rw [List.getElem?_map, hx]
        rfl
      · unfold fresh at hxm
        rcases List.mem_cons.mp hxm with rfl | hxm
        · exact hW
        · obtain ⟨j, hj, rfl⟩ := List.mem_map.mp hxm
          exact endW_ok hW (List.mem_range.mp hj)
end
end Abv
set_option Elab.async false
set_option linter.all false
set_option maxRecDepth 100000
set_option maxHeartbeats 4000000
/-! ## names, marks -/
namespace Abv
open PySem PySem.Spec PyProof.Rows L2
section
variable {P : Program} {w : World} {K : PySem.W.Frag} {mg : Str → Option Value} {base : Heap}
theorem MR.new {r p : Addr} {H H0 : Hp} {o : HO} (m : MR r H H0) (h : H0 p = none) : MR r H (upd H0 p o) := m.trans (MR.of (Same.new h) m.1)
theorem RngAt.ne {r p : Addr} {H : Hp} (h : RngAt r H) (n : H p = none) : p ≠ r := by
  obtain ⟨a, b, h, _⟩ := h
  exact Ne.symm (ne_of_none h n)
theorem MR.free {r p : Addr} {H H' : Hp} (hR : RngAt r H) (m : MR r H H') (n : H' p = none) : H p = none := by
  cases h : H p with
  | none => rfl
  | some o =>
    by_cases hp : p = r
    · subst hp
      obtain ⟨a, b, h', _⟩ := m.1
      rw [n] at h'
      cases h'
    · rw [m.2 _ _ h hp] at n
      cases n
def spNames (K : PySem.W.Frag) : Sp := fun vs H Q _ => ∃ (r u : Addr) (m : Nat), vs = [.ref r, .int (m : Int), .ref u] ∧ m ≤ 3 ∧ RngAt r H ∧ H u = some (.lst []) ∧ u ≠ r ∧
  ∀ (p : Addr) (xs : List Str) H', xs.length = m → xs.Nodup → (∀ x ∈ xs, NameOk x) → MR r H H' → H p = none → H' p = some (.lst (xs.map V.str)) → Q (.ref p) H'
abbrev s__law_names : Stmt := top 46
abbrev n__law_names : List Str := ["_law_rng_here", "_law_many", "_law_used", "_law_found", "_law_k"]
theorem sc__law_names : FnScope n__law_names ["_law_rng_here", "_law_many", "_law_used"] (defScope s__law_names) := ⟨rfl, rfl, rfl, by decide +kernel, rfl, by decide +kernel, by decide +kernel⟩
theorem ok_names (T : Tx K mg) : Cl CX0 P w K mg base 3 "_law_names" (spNames K) := by
  have C__law_name : Cl CX0 P w K mg base 2 "_law_name" (spName K) := ok_name T
  refine cl0 T.f__law_names sc__law_names (fun _ _ _ _ _ _ us hl => match us, hl with | [_, _, _], _ => rfl) (fun vs H Q E h => ?_) (fun f cdv A outer s H vs Q E hr h => ?_)
  · obtain ⟨r, u, m, rfl, _⟩ := h
    rfl
  obtain ⟨r, u, m, rfl, hm, hR, hu, hur, k⟩ := h
  refine ⟨_, (pss_cons (ps_set (i := 3) sc__law_names.nd rfl (Or.inl rfl) (pe_lst pa_nil))
      (pss_cons (ps_for PassesOwn.never rfl (pi_range1 rfl T.b_range (pa_cons (pv 1) pa_nil)) (pg_name (i := 4) sc__law_names.nd rfl (Or.inl rfl))
        (pss_one (ps_expr (pe_bmK (K := K) PySem.F.plainAttrs_list PySem.F.slot_list_append PySem.F.type_list_append mt_append (pv 3) (pa_cons (pe_cl C__law_name hr (by decide) pass0 rfl (pa_cons (pv 0) (pa_cons (pe_op op_cat (pv 2) (pv 3)) pa_nil))) pa_nil)))))
      (pss_one (ps_ret (pv 3))))), ?_⟩
  refine ⟨szl (Nat.le_of_ble_eq_true rfl), fun D nD => ?_⟩
  have hDr := hR.ne nD
  refine ⟨_, rfl, m, rfl, by omega, by omega, ?_⟩
  refine forJ m (fun i σ H' => MR r H H' ∧ (∃ xs : List Str, H' D = some (.lst (xs.map V.str)) ∧ xs.length = i ∧ xs.Nodup ∧ ∀ x ∈ xs, NameOk x) ∧ ∃ y, σ = [some (.ref r), some (.int (m : Int)), some (.ref u), some (.ref D), y]) ?_ ?_ ?_ ?_ ?_
  · exact ⟨(MR.refl hR).new nD, ⟨[], upd_same, rfl, List.nodup_nil, fun x h => by cases h⟩, none, rfl⟩
  · exact fun i σ H' hi _ => hi
  · exact fun σ H' _ => Nat.le_refl _
  · intro i x σ H1 H2 hi h hy
    obtain ⟨rfl, rfl⟩ := hy
    obtain ⟨m1, ⟨xs, hD, hl, hnd, hok⟩, y, rfl⟩ := h
    refine ⟨_, rfl, Or.inl ⟨rfl, _, SqL.of hD⟩, _, rfl, _, rfl, _, rfl, u, D, [], _, rfl, rfl, m1.2 _ _ hu hur, hD, by rw [List.length_map]; exact szl (by show 0 + _ ≤ _; omega), fun p hp => ?_⟩
    have m2 := m1.new (o := .lst (xs.map V.str)) hp
    refine ⟨r, p, xs, rfl, m2.1, upd_same, m1.1.ne hp, by omega, fun x H3 hx hxn m3 => ?_⟩
    have hpD : D ≠ p := ne_of_none hD hp
    refine ⟨D, _, _, rfl, rfl, m3.2 _ _ (by rw [upd_ne hpD]; exact hD) hDr, by rw [List.length_map, sizeLine_eq]; omega, ?_, ⟨xs ++ [x], by rw [upd_same, List.map_append]; rfl, by rw [List.length_append, hl]; rfl, ?_, ?_⟩, _, rfl⟩
    · have m4 := m2.trans m3
      obtain ⟨a, b, h, q⟩ := m4.1
      exact ⟨⟨a, b, by rw [upd_ne (Ne.symm hDr)]; exact h, q⟩, fun c o hc hn => by rw [upd_ne (ne_of_none hc nD)]; exact m4.2 _ _ hc hn⟩
    · rw [List.nodup_append]
      refine ⟨hnd, by simp, fun a ha b hb => ?_⟩
      rw [List.mem_singleton.mp hb]
      rintro rfl
      exact hxn ha
    · intro z hz
      rcases List.mem_append.mp hz with h | h
      · exact hok z h
      · rw [List.mem_singleton.mp h]
        exact hx
  · rintro σ H1 ⟨m1, ⟨xs, hD, hl, hnd, hok⟩, y, rfl⟩
    exact ⟨_, rfl, k D xs H1 hl hnd hok m1 nD hD⟩
/-! ### marks -/
def spMarks (K : PySem.W.Frag) : Sp := fun vs H Q _ => ∃ (r : Addr), vs = [.ref r, .int 3] ∧ RngAt r H ∧
  ∀ (p : Addr) (ms : List Str) H', ms.length ≤ 3 → LblOk ms → MR r H H' → H p = none → H' p = some (.lst (ms.map V.str)) → Q (.ref p) H'
abbrev s__law_marks : Stmt := top 47
abbrev n__law_marks : List Str := ["_law_rng_here", "_law_most_marks"]
theorem sc__law_marks : FnScope n__law_marks ["_law_rng_here", "_law_most_marks"] (defScope s__law_marks) := ⟨rfl, rfl, rfl, by decide +kernel, rfl, by decide +kernel, by decide +kernel⟩
theorem ok_marks (T : Tx K mg) : Cl CX0 P w K mg base 4 "_law_marks" (spMarks K) := by
  have C__law_names : Cl CX0 P w K mg base 3 "_law_names" (spNames K) := ok_names T
  have C__law_draw : Cl CX0 P w K mg base 1 "_law_draw" (spDraw K) := ok_draw T
  refine cl0 T.f__law_marks sc__law_marks (fun _ _ _ _ _ _ us hl => match us, hl with | [_, _], _ => rfl) (fun vs H Q E h => ?_) (fun f cdv A outer s H vs Q E hr h => ?_)
  · obtain ⟨r, rfl, _⟩ := h
    rfl
  obtain ⟨r, rfl, hR, k⟩ := h
  refine ⟨_, (pss_one (ps_ret (pe_callB (id := "sorted") (srtS (K := K)) (by rfl) T.b_sorted (by decide +kernel) (pa_cons (pe_cl C__law_names hr (by decide) pass0 rfl (pa_cons (pv 0) (pa_cons (pe_cl C__law_draw hr (by decide) pass0 rfl (pa_cons (pv 0) (pa_cons (pe_op op_add (pv 1) pe_int) pa_nil))) (pa_cons (pe_lst pa_nil) pa_nil)))) pa_nil)))), ?_⟩
  refine ⟨_, rfl, _, rfl, _, rfl, _, _, rfl, rfl, r, 4, rfl, by omega, by omega, hR, fun i H1 hi m1 => ⟨szl (Nat.le_of_ble_eq_true rfl), fun u hu => ?_⟩⟩
  have m2 := m1.new (o := .lst []) hu
  refine ⟨r, u, i, rfl, by omega, m2.1, upd_same, m1.1.ne hu, fun p xs H3 hl hnd hok m3 np hp => ?_⟩
  refine ⟨p, xs, rfl, SqL.of hp, by omega, fun ys q h1 h2 nq => ?_⟩
  have M := m2.trans m3
  refine k q ys _ (by rw [h1.length_eq]; omega) ⟨?_, fun x hx => hok x (h1.mem_iff.mp hx), by rw [h1.length_eq]; omega⟩ (M.new nq) (MR.free hR M nq) upd_same
  have hs := sorted_pair h2
  have hn : ys.Nodup := h1.nodup_iff.mpr hnd
  refine (List.pairwise_and_iff.mpr ⟨hs, hn⟩).imp fun h => ?_
  exact (slt_iff _ _).mpr h
end
end Abv
set_option Elab.async false
set_option linter.all false
set_option maxRecDepth 100000
set_option maxHeartbeats 4000000
/-! ## a < b of tuples: only the first place that differs is asked -/
namespace Abv
open PySem PySem.SeqAt PyProof.Rows
open AutoSeq1 (wpAny_loadPart')
open MeetsSeq MeetsSeq2 MeetsSeq3 SeqRoads2
theorem tlt_meets (p q : Addr) (us ws : Array Value) (m m2 : Nat) (d1 d2 : Option Addr) (z1 z2 : Array (Option Value)) (eq lt : Nat → Bool) :
    Meets (Builtin.«tuple.__lt__» ⟨[.ref p, .ref q], []⟩)
      (fun A R s => s.heap.get? p = some { cls := .type "tuple", dict := d1, data := .seq us m, slots := z1 } ∧ s.heap.get? q = some { cls := .type "tuple", dict := d2, data := .seq ws m2, slots := z2 } ∧
        (∀ j (h1 : j < us.size) (h2 : j < ws.size), EqAt A.in1 s us[j] ws[j] (eq j)) ∧ (∀ j (h1 : j < us.size) (h2 : j < ws.size), (∀ i, i < j → eq i = true) → eq j = false → RcLt A.in1 s us[j] ws[j] (lt j)) ∧
        R (.ok (.ret (.bool (firstLt eq lt (decide (us.size < ws.size)) (List.range (min us.size ws.size)))))) s) :=
  .of_wp fun prog w A R s h => by
    obtain ⟨hp, gg, dd, tk, os⟩ := s
    obtain ⟨hl, hb, he, hr, h⟩ := h
    have f2 := AutoSeq1.sub_tuple_tuple
    have hZ : (us.toList.zip ws.toList).length = min us.size ws.size := by simp
    wp_walk using wpAny_loadPart' hl, wpAny_loadPart' hb, wpAny_forIn_list _ (fun rest b s' => b.1 = none ∧ s' = ⟨hp, gg, dd, tk, os⟩ ∧ ∃ i, rest = (us.toList.zip ws.toList).drop i ∧ (∀ k, k < i → eq k = true) ∧
      R (.ok (.ret (.bool (firstLt eq lt (decide (us.size < ws.size)) ((List.range (min us.size ws.size)).drop i))))) ⟨hp, gg, dd, tk, os⟩) _
    case turn =>
      rintro ⟨y, x⟩ rest b s' ⟨hb', rfl, i, hz, hE, hR⟩
      have hin : i < (us.toList.zip ws.toList).length := by
        rcases Nat.lt_or_ge i (us.toList.zip ws.toList).length with h' | h'
        · exact h'
        · rw [List.drop_of_length_le h'] at hz
          cases hz
      have hm : i < min us.size ws.size := by rw [← hZ]; exact hin
      have h1 : i < us.size := by omega
      have h2 : i < ws.size := by omega
      rw [List.drop_eq_getElem_cons hin] at hz
      injection hz with hyx hrest
      obtain rfl : y = us[i] := by simpa using congrArg Prod.fst hyx
      obtain rfl : x = ws[i] := by simpa using congrArg Prod.snd hyx
      have hd : (List.range (min us.size ws.size)).drop i = i :: (List.range (min us.size ws.size)).drop (i + 1) := by simp [List.drop_eq_getElem_cons, hm]
      rw [hd] at hR
      refine wpAny_bind (he i h1 h2 prog w _ _ ?_)
      cases hy : eq i with
      | true =>
        rw [firstLt_yes hy] at hR
        wp_walk
        refine ⟨rfl, rfl, i + 1, hrest, fun k hk => ?_, hR⟩
        by_cases hki : k = i
        · rw [hki]
          exact hy
        · exact hE k (by omega)
      | false =>
        rw [firstLt_no hy] at hR
        rw [if_pos (show (!false) = true from rfl)]
        refine wpAny_bind (wpAny_rule ?_)
        refine wpAny_bind (hr i h1 h2 hE hy prog w _ _ ?_)
        wp_walk
        exact ⟨_, rfl, hR⟩
    case fin =>
      rintro ⟨b1, b2⟩ s' ⟨hb', rfl, i, hz, _, hR⟩
      simp only at hb'
      subst hb'
      have hge : min us.size ws.size ≤ i := by
        rcases Nat.lt_or_ge i (us.toList.zip ws.toList).length with h' | h'
        · rw [List.drop_eq_getElem_cons h'] at hz
          cases hz
        · rw [← hZ]
          exact h'
      rw [List.drop_of_length_le (by simpa using hge)] at hR
      wp_walk
      exact ⟨_, rfl, by simpa [Builtin.Tuple.tupleCompareSizes, firstLt] using hR⟩
    case h =>
      exact ⟨rfl, rfl, 0, rfl, fun k hk => absurd hk (Nat.not_lt_zero k), by simpa using h⟩
theorem rcLt_tup {A : Around} {s : Shared} {p q : Addr} {us ws : Array Value} {eq lt : Nat → Bool} (hl : s.heap.IsTuple p us) (hb : s.heap.IsTuple q ws) (hu : A.units < cLine)
    (he : ∀ j (h1 : j < us.size) (h2 : j < ws.size), EqAt A.in1 s us[j] ws[j] (eq j)) (hr : ∀ j (h1 : j < us.size) (h2 : j < ws.size), (∀ i, i < j → eq i = true) → eq j = false → RcLt A.in1 s us[j] ws[j] (lt j)) :
    RcLt A s (.ref p) (.ref q) (firstLt eq lt (decide (us.size < ws.size)) (List.range (min us.size ws.size))) := fun prog w E Q h => by
  obtain ⟨⟨c1, d1, t1, z1⟩, ho, hc, n, hd⟩ := id hl
  obtain ⟨⟨c2, d2, t2, z2⟩, ho2, hc2, n2, hd2⟩ := id hb
  simp only at hc hd hc2 hd2
  subst hc hd hc2 hd2
  refine richCompare_meets_room (op := .Lt) ⟨_, ho, rfl⟩ ⟨_, ho2, rfl⟩ F.slot_tuple_lt F.entry_tuple_lt (F.args_tuple_lt_2 _ _) (tlt_meets p q us ws n n2 d1 d2 z1 z2 eq lt) ⟨ho, ho2, he, hr, ?_⟩ hu
  exact ⟨(fun x => nomatch x), h⟩
end Abv
set_option Elab.async false
set_option linter.all false
set_option maxRecDepth 100000
set_option maxHeartbeats 4000000
/-! ## Sorting by keys that can be compared: what differs first is of one kind -/
namespace Abv
open PySem PySem.Spec PySem.SeqAt PySem.W PyProof.Rows
mutual
/-- == and < can be asked -/
def cmpb : PyData → PyData → Bool
  | .bool _, .bool _ => true
  | .int _, .int _ => true
  | .str _, .str _ => true
  | .tuple xs, .tuple ys => cmpbAll xs ys
  | _, _ => false
def cmpbAll : List PyData → List PyData → Bool
  | x :: xs, y :: ys => if PyData.eqv x y = true then alike x y && cmpbAll xs ys else cmpb x y
  | [], _ => true
  | _ :: _, [] => true
end
theorem cmpb_yes {x y : PyData} {xs ys : List PyData} (h : cmpbAll (x :: xs) (y :: ys) = true) (e : PyData.eqv x y = true) : alike x y = true ∧ cmpbAll xs ys = true := by
  rw [cmpbAll, if_pos e, Bool.and_eq_true] at h
  exact h
theorem cmpb_no {x y : PyData} {xs ys : List PyData} (h : cmpbAll (x :: xs) (y :: ys) = true) (e : PyData.eqv x y = false) : cmpb x y = true := by
  rw [cmpbAll, if_neg (by rw [e]; exact Bool.false_ne_true)] at h
  exact h
mutual
theorem cmpb_toks : ∀ (x y : PyData), cmpb x y = true → PyData.eqv x y = false → ∀ l m, PyProof.Rows.lexLt itemOrd (keyToks x ++ l) (keyToks y ++ m) = PyProof.Rows.lexLt itemOrd (keyToks x) (keyToks y)
  | .none, y, h, _ => absurd h (by cases y <;> simp [cmpb])
  | .bool a, y, h, e => by
    cases y with
    | bool b => exact (toks_eqv (.bool a) (.bool b) (by simp [alike])).2 e
    | _ => exact absurd h (by simp [cmpb])
  | .int a, y, h, e => by
    cases y with
    | int b => exact (toks_eqv (.int a) (.int b) (by simp [alike])).2 e
    | _ => exact absurd h (by simp [cmpb])
  | .str a, y, h, e => by
    cases y with
    | str b => exact (toks_eqv (.str a) (.str b) (by simp [alike])).2 e
    | _ => exact absurd h (by simp [cmpb])
  | .list xs, y, h, _ => absurd h (by cases y <;> simp [cmpb])
  | .tuple xs, y, h, e => by
    cases y with
    | tuple ys =>
      have t := cmpbAll_toks xs ys (by simpa [cmpb] using h) (by simpa [PyData.eqv] using e)
      simp only [keyToks]
      exact t
    | _ => exact absurd h (by simp [cmpb])
  | .dict _, y, h, _ => absurd h (by cases y <;> simp [cmpb])
theorem cmpbAll_toks : ∀ (xs ys : List PyData), cmpbAll xs ys = true → PyData.eqvAll xs ys = false → ∀ l m, PyProof.Rows.lexLt itemOrd (keyToksAll xs ++ l) (keyToksAll ys ++ m) = PyProof.Rows.lexLt itemOrd (keyToksAll xs) (keyToksAll ys)
  | [], [], _, e => absurd e (by simp [PyData.eqvAll])
  | [], y :: ys, _, _ => fun l m => by
      simp only [keyToksAll, List.cons_append, List.nil_append]
      exact (lex_atom (by simp) _ _).trans (lex_atom (by simp) _ _).symm
  | x :: xs, [], _, _ => fun l m => by
      simp only [keyToksAll, List.cons_append, List.nil_append]
      exact (lex_atom (by simp) _ _).trans (lex_atom (by simp) _ _).symm
  | x :: xs, y :: ys, h, e => fun l m => by
    rw [eqv_all_cons] at e
    rw [toks_all_cons, toks_all_cons]
    simp only [List.cons_append, List.append_assoc]
    cases hx : PyData.eqv x y with
    | true =>
      obtain ⟨h1, h2⟩ := cmpb_yes h hx
      rw [hx, Bool.true_and] at e
      have b2 := cmpbAll_toks xs ys h2 e l m
      rw [(toks_eqv x y h1).1 hx]
      exact (lex_self (O := itemOrd) _ _ _).trans ((lex_pre _ _ _).trans (b2.trans ((lex_pre _ _ _).symm.trans (lex_self (O := itemOrd) _ _ _).symm)))
    | false =>
      have a2 := cmpb_toks x y (cmpb_no h hx) hx
      exact (lex_self (O := itemOrd) _ _ _).trans ((a2 _ _).trans ((a2 _ _).symm.trans (lex_self (O := itemOrd) _ _ _).symm))
end
theorem cmpb_all_no {x y : PyData} {xs ys : List PyData} (h : cmpb x y = true) (e : PyData.eqv x y = false) : PyProof.Rows.lexLt itemOrd (keyToksAll (x :: xs)) (keyToksAll (y :: ys)) = dataLt x y := by
  rw [toks_all_cons, toks_all_cons]
  exact (lex_self (O := itemOrd) _ _ _).trans (cmpb_toks x y h e _ _)
theorem firstLt_cmpb : ∀ (xs ys : List PyData), cmpbAll xs ys = true →
    firstLt (pairEq xs ys) (fun j => dataLt (xs.getD j .none) (ys.getD j .none)) (decide (xs.length < ys.length)) (List.range (min xs.length ys.length)) = PyProof.Rows.lexLt itemOrd (keyToksAll xs) (keyToksAll ys)
  | [], [], _ => firstLt_toks [] [] (by simp [alikeAll])
  | [], y :: ys, _ => firstLt_toks [] (y :: ys) (by simp [alikeAll])
  | x :: xs, [], _ => firstLt_toks (x :: xs) [] (by simp [alikeAll])
  | x :: xs, y :: ys, h => by
    have em : min (x :: xs).length (y :: ys).length = min xs.length ys.length + 1 := by
      rw [List.length_cons, List.length_cons]
      omega
    have ed : decide ((x :: xs).length < (y :: ys).length) = decide (xs.length < ys.length) := by
      rw [List.length_cons, List.length_cons]
      exact decide_eq_decide.mpr (by omega)
    rw [em, ed, List.range_succ_eq_map]
    cases hx : PyData.eqv x y with
    | true =>
      obtain ⟨h1, h2⟩ := cmpb_yes h hx
      rw [firstLt_yes (show pairEq (x :: xs) (y :: ys) 0 = true from hx), firstLt_map, dataLt_all_yes h1 hx, ← firstLt_cmpb xs ys h2]
      rfl
    | false =>
      rw [firstLt_no (show pairEq (x :: xs) (y :: ys) 0 = false from hx), cmpb_all_no (cmpb_no h hx) hx]
      rfl
mutual
theorem rcLt_cmpb : ∀ (da db : PyData) (A : Around) (s : Shared) (a b : Value) (as bs : List Addr), Reads s.heap a da as → Reads s.heap b db bs → cmpb da db = true → da.canLay0 = true → db.canLay0 = true → A.units + min da.depth db.depth < cLine → RcLt A s a b (dataLt da db)
  | .none, y, _, _, _, _, _, _, _, _, h, _, _, _ => absurd h (by cases y <;> simp [cmpb])
  | .bool a, y, A, s, u, v, as, bs, ra, rb, h, _, _, hu => by
    cases y with
    | bool b => exact rcLt_alike (.bool a) (.bool b) A s u v as bs ra rb (by simp [alike]) (by simp) hu
    | _ => exact absurd h (by simp [cmpb])
  | .int a, y, A, s, u, v, as, bs, ra, rb, h, _, _, hu => by
    cases y with
    | int b => exact rcLt_alike (.int a) (.int b) A s u v as bs ra rb (by simp [alike]) (by simp) hu
    | _ => exact absurd h (by simp [cmpb])
  | .str a, y, A, s, u, v, as, bs, ra, rb, h, _, _, hu => by
    cases y with
    | str b => exact rcLt_alike (.str a) (.str b) A s u v as bs ra rb (by simp [alike]) (by simp) hu
    | _ => exact absurd h (by simp [cmpb])
  | .list xs, y, _, _, _, _, _, _, _, _, h, _, _, _ => absurd h (by cases y <;> simp [cmpb])
  | .tuple xs, db, A, s, a, b, as, bs, ra, rb, h, la, lb, hu => by
    cases db with
    | tuple ys =>
      have hal : cmpbAll xs ys = true := by simpa [cmpb] using h
      have la' : PyData.canLayAll0 xs = true := by simpa [PyData.canLay0] using la
      have lb' : PyData.canLayAll0 ys = true := by simpa [PyData.canLay0] using lb
      cases ra with
      | @tuple l o vs n _ as₁ h1 h2 h3 h4 =>
        cases rb with
        | @tuple l' o' vs' n' _ bs₁ k1 k2 k3 k4 =>
          have n1 : vs.size = xs.length := by simpa using ReadsAll.length _ _ _ h4
          have n2 : vs'.size = ys.length := by simpa using ReadsAll.length _ _ _ k4
          rw [dataLt_tuple, ← firstLt_cmpb xs ys hal, ← n1, ← n2]
          have ea := eqAt_readsAll xs ys A.in1 s vs.toList vs'.toList _ _ h4 k4 la' lb' (room_in hu)
          have ra := rcLt_cmpbAll xs ys A.in1 s vs.toList vs'.toList _ _ h4 k4 hal la' lb' (room_in hu)
          refine rcLt_tup ⟨_, h1, h2, _, h3⟩ ⟨_, k1, k2, _, k3⟩ (room_here hu) (fun j j1 j2 => ?_) fun j j1 j2 hE hj => ?_
          · have := ea j (by simpa using j1) (by simpa using j2)
            simpa using this
          · have := ra j (by simpa using j1) (by simpa using j2) hE hj
            simpa using this
    | _ => exact absurd h (by simp [cmpb])
  | .dict _, y, _, _, _, _, _, _, _, _, h, _, _, _ => absurd h (by cases y <;> simp [cmpb])
theorem rcLt_cmpbAll : ∀ (xs ys : List PyData) (A : Around) (s : Shared) (vs ws : List Value) (as bs : List Addr), ReadsAll s.heap vs xs as → ReadsAll s.heap ws ys bs → cmpbAll xs ys = true → PyData.canLayAll0 xs = true → PyData.canLayAll0 ys = true →
    A.units + min (PyData.depthAll xs) (PyData.depthAll ys) < cLine → ∀ j (h1 : j < vs.length) (h2 : j < ws.length), (∀ i, i < j → pairEq xs ys i = true) → pairEq xs ys j = false → RcLt A s vs[j] ws[j] (dataLt (xs.getD j .none) (ys.getD j .none))
  | [], _, _, _, _, _, _, _, ra, _, _, _, _, _, j, h1, _, _, _ => by cases ra; exact absurd h1 (Nat.not_lt_zero _)
  | _ :: _, [], _, _, _, _, _, _, _, rb, _, _, _, _, j, _, h2, _, _ => by cases rb; exact absurd h2 (Nat.not_lt_zero _)
  | x :: xs, y :: ys, A, s, _, _, _, _, ra, rb, h, la, lb, hu, j, h1, h2, hE, hj => by
    have la' : x.canLay0 = true ∧ PyData.canLayAll0 xs = true := by simpa [PyData.canLayAll0] using la
    have lb' : y.canLay0 = true ∧ PyData.canLayAll0 ys = true := by simpa [PyData.canLayAll0] using lb
    cases ra with
    | cons r rs =>
      cases rb with
      | cons r' rs' =>
        cases j with
        | zero => exact rcLt_cmpb x y A s _ _ _ _ r r' (cmpb_no h hj) la'.1 lb'.1 (room_head hu)
        | succ j => exact rcLt_cmpbAll xs ys A s _ _ _ _ rs rs' (cmpb_yes h (hE 0 (Nat.succ_pos j))).2 la'.2 lb'.2 (room_tail hu) j (Nat.lt_of_succ_lt_succ h1) (Nat.lt_of_succ_lt_succ h2) (fun i hi => hE (i + 1) (Nat.succ_lt_succ hi)) hj
end
/-! ### as sorting asks -/
section
variable {prog : Program} {w : World} {A : Around} {s : Shared}
theorem oneLt_cmpb {f : Bool} {E : Value → Shared → Prop} {x y : PyData} {u v : Value} {as bs : List Addr} {Q : Bool → Shared → Prop} (hf : f = true → ∀ t, x ≠ .tuple t) (ra : Reads s.heap u x as) (rb : Reads s.heap v y bs) (h : cmpb x y = true)
    (la : x.canLay0 = true) (lb : y.canLay0 = true) (hu : A.units + min x.depth y.depth < cLine) (hq : Q (dataLt x y) s) : wpAny (model prog w) A (oneLt' f u v) Q E s := by
  cases f with
  | false =>
    rw [oneLt'_eq]
    simp only [Bool.false_eq_true, if_false]
    exact wpAny_bind (rcLt_cmpb x y A s u v as bs ra rb h la lb hu prog w E _ (wpAny_truthy_bool hq))
  | true =>
    have ha : alike x y = true ∧ x ≠ .none := by
      cases x with
      | tuple t => exact absurd rfl (hf rfl t)
      | _ => cases y <;> first | (exfalso; simp [cmpb] at h; done) | (refine ⟨?_, ?_⟩ <;> simp [alike])
    exact oneLt_alike hf ra rb ha.1 ha.2 hu hq
theorem katLex_cmpb {b fin : Bool} {Q : Bool → Shared → Prop} : ∀ (xs ys : List PyData) (i : Nat) (vs ws : List Value) (as bs : List Addr), ReadsAll s.heap vs xs as → ReadsAll s.heap ws ys bs → cmpbAll xs ys = true → PyData.canLayAll0 xs = true → PyData.canLayAll0 ys = true →
    A.units + min (PyData.depthAll xs) (PyData.depthAll ys) < cLine → (b = true → i = 0 → ∀ x r t, xs = x :: r → x ≠ .tuple t) → fin = decide (xs.length < ys.length) → Q (PyProof.Rows.lexLt itemOrd (keyToksAll xs) (keyToksAll ys)) s → KatLex prog w A b fin Q (vs.zip ws) i s
  | [], ys, i, vs, ws, as, bs, ra, rb, _, _, _, hu, hb, hf, hq => katLex_alike [] ys i vs ws as bs ra rb (by cases ys <;> simp [alikeAll]) hu hb hf hq
  | x :: xs, [], i, vs, ws, as, bs, ra, rb, _, _, _, hu, hb, hf, hq => katLex_alike (x :: xs) [] i vs ws as bs ra rb (by simp [alikeAll]) hu hb hf hq
  | x :: xs, y :: ys, i, _, _, _, _, ra, rb, h, la, lb, hu, hb, hf, hq => by
    have la' : x.canLay0 = true ∧ PyData.canLayAll0 xs = true := by simpa [PyData.canLayAll0] using la
    have lb' : y.canLay0 = true ∧ PyData.canLayAll0 ys = true := by simpa [PyData.canLayAll0] using lb
    have hf' : fin = decide (xs.length < ys.length) := by
      rw [hf]
      simp only [List.length_cons, Nat.add_lt_add_iff_right]
    cases ra with
    | cons r rs =>
      cases rb with
      | cons r' rs' =>
        rw [List.zip_cons_cons]
        refine kat_cons (eqAt_reads x y A s _ _ _ _ r r' la'.1 lb'.1 (room_head hu) prog w _ _ ?_)
        cases hx : PyData.eqv x y with
        | true =>
          obtain ⟨h1, h2⟩ := cmpb_yes h hx
          rw [dataLt_all_yes h1 hx] at hq
          exact kat_yes (katLex_cmpb xs ys (i + 1) _ _ _ _ rs rs' h2 la'.2 lb'.2 (room_tail hu) (fun _ hi => absurd hi (Nat.succ_ne_zero i)) hf' hq)
        | false =>
          rw [cmpb_all_no (cmpb_no h hx) hx] at hq
          refine kat_no (oneLt_cmpb (fun hbi t => ?_) r r' (cmpb_no h hx) la'.1 lb'.1 (room_head hu) hq)
          rw [Bool.and_eq_true] at hbi
          exact hb hbi.1 (by simpa using hbi.2) x xs t rfl
end
/-! ### what a value reads as is one -/
mutual
theorem reads_one {h : Heap} : ∀ (d d' : PyData) (v : Value) (as as' : List Addr), d.canLay0 = true → d'.canLay0 = true → Reads h v d as → Reads h v d' as' → d = d'
  | .none, _, _, _, _, _, _, r, r' => by cases r; cases r'; rfl
  | .bool _, _, _, _, _, _, _, r, r' => by cases r; cases r'; rfl
  | .int _, _, _, _, _, _, _, r, r' => by cases r; cases r'; rfl
  | .str _, _, _, _, _, _, _, r, r' => by cases r; cases r'; rfl
  | .list xs, d', _, _, _, l, l', r, r' => by
    cases r with
    | list h1 h2 h3 h4 =>
      cases r' with
      | list k1 k2 k3 k4 =>
        rw [h1] at k1; cases k1
        rw [h3] at k3; cases k3
        rw [reads_oneA xs _ _ _ _ (by simpa [PyData.canLay0] using l) (by simpa [PyData.canLay0] using l') h4 k4]
      | tuple k1 k2 k3 k4 =>
        rw [h1] at k1; cases k1
        rw [h2] at k2
        injection k2 with k2
        exact absurd k2 (by decide)
      | dict k1 k2 k3 k4 k5 => exact absurd l' (by simp [PyData.canLay0])
  | .tuple xs, d', _, _, _, l, l', r, r' => by
    cases r with
    | tuple h1 h2 h3 h4 =>
      cases r' with
      | tuple k1 k2 k3 k4 =>
        rw [h1] at k1; cases k1
        rw [h3] at k3; cases k3
        rw [reads_oneA xs _ _ _ _ (by simpa [PyData.canLay0] using l) (by simpa [PyData.canLay0] using l') h4 k4]
      | list k1 k2 k3 k4 =>
        rw [h1] at k1; cases k1
        rw [h2] at k2
        injection k2 with k2
        exact absurd k2 (by decide)
      | dict k1 k2 k3 k4 k5 => exact absurd l' (by simp [PyData.canLay0])
  | .dict _, _, _, _, _, l, _, _, _ => absurd l (by simp [PyData.canLay0])
theorem reads_oneA {h : Heap} : ∀ (xs ys : List PyData) (vs : List Value) (as as' : List Addr), PyData.canLayAll0 xs = true → PyData.canLayAll0 ys = true → ReadsAll h vs xs as → ReadsAll h vs ys as' → xs = ys
  | [], _, _, _, _, _, _, r, r' => by cases r; cases r'; rfl
  | x :: xs, [], _, _, _, _, _, r, r' => by cases r'; cases r
  | x :: xs, y :: ys, _, _, _, la, lb, r, r' => by
    have la' : x.canLay0 = true ∧ PyData.canLayAll0 xs = true := by simpa [PyData.canLayAll0] using la
    have lb' : y.canLay0 = true ∧ PyData.canLayAll0 ys = true := by simpa [PyData.canLayAll0] using lb
    cases r with
    | cons h1 h2 =>
      cases r' with
      | cons k1 k2 => rw [reads_one x y _ _ _ la'.1 lb'.1 h1 k1, reads_oneA xs ys _ _ _ la'.2 lb'.2 h2 k2]
end
/-- keys: tuples, the first items of one type -/
structure KeysOk (ds : List PyData) (T : Value) : Prop where
  cmp : ∀ d ∈ ds, ∀ d' ∈ ds, cmpb d d' = true
  lay : ∀ d ∈ ds, d.canLay0 = true
  fst : ∀ d ∈ ds, ∃ x r, d = .tuple (x :: r) ∧ dataType x = T
theorem keyOf_ok {h : Heap} {ds : List PyData} {T : Value} (O : KeysOk ds T) {v : Value} {d : PyData} {as : List Addr} (hd : d ∈ ds) (r : Reads h v d as) : (dataKind h ds).keyOf v = some (keyToks d) := by
  have q : ∃ d, d ∈ ds ∧ ∃ as, Reads h v d as := ⟨d, hd, as, r⟩
  have e : (dataKind h ds).keyOf v = some (keyToks q.choose) := by
    show (open Classical in if q : ∃ d, d ∈ ds ∧ ∃ as, Reads h v d as then some (keyToks q.choose) else none) = _
    rw [dif_pos q]
  obtain ⟨h1, as', h2⟩ := q.choose_spec
  rw [e, reads_one _ _ _ _ _ (O.lay _ h1) (O.lay _ hd) h2 r]
theorem sortsAt_ok {prog : Program} {w : World} {A : Around} {s : Shared} {vs : List Value} {ds : List PyData} {T : Value} (e : EachIs (fun v d => ∃ as, Reads s.heap v d as) vs ds) (O : KeysOk ds T) (hT : (T == T) = true) (hu : ∀ d, d ∈ ds → A.units + d.depth < cLine) :
    SortsAt prog w A s (dataKind s.heap ds) vs := by
  refine ⟨fun v hv => ?_, tuples' (T != Value.type "tuple"), ?_, fun h2 E Q hq => ?_⟩
  · obtain ⟨d, hd, as, r⟩ := e.left v hv
    exact ⟨_, keyOf_ok O hd r⟩
  · intro E x y a b Q ha hb hq
    obtain ⟨d, as, hd, ra, rfl⟩ := dataKind_inv ha
    obtain ⟨d', as', hd', rb, rfl⟩ := dataKind_inv hb
    have hc := O.cmp d hd d' hd'
    have la := O.lay d hd
    have lb := O.lay d' hd'
    have hroom : A.units + min d.depth d'.depth < cLine := Nat.lt_of_le_of_lt (Nat.add_le_add_left (Nat.min_le_left _ _) _) (hu d hd)
    obtain ⟨x1, r1, rfl, t1⟩ := O.fst d hd
    obtain ⟨x2, r2, rfl, t2⟩ := O.fst d' hd'
    have hq' : Q (dataLt (.tuple (x1 :: r1)) (.tuple (x2 :: r2))) s := hq
    rw [dataLt_tuple] at hq'
    cases ra with
    | @tuple l o xs n _ _ h1 h2 h3 h4 =>
      cases rb with
      | @tuple l' o' xs' n' _ _ k1 k2 k3 k4 =>
        have n1 : xs.size = (x1 :: r1).length := by simpa using ReadsAll.length _ _ _ h4
        have n2 : xs'.size = (x2 :: r2).length := by simpa using ReadsAll.length _ _ _ k4
        refine kat_lt h1 h3 k1 k3 (katLex_cmpb (x1 :: r1) (x2 :: r2) 0 _ _ _ _ h4 k4 (by simpa [cmpb] using hc) (by simpa [PyData.canLay0] using la) (by simpa [PyData.canLay0] using lb) (by have q := room_in hroom; omega) (fun hb _ x r t ex => ?_) (by rw [n1, n2]) hq')
        obtain ⟨rfl, rfl⟩ := List.cons.inj ex
        rw [← t1] at hb
        exact dataType_tuple hb t
  · obtain ⟨fs, t1, t2, t3⟩ := each_katTups e fun d hd => (O.fst d hd).imp fun x ⟨r, h, _⟩ => ⟨r, h⟩
    refine kat_kind (T := T) t1 (by omega) (fun f hf => ?_) hT hq
    obtain ⟨x, r, as, m1, m2⟩ := t3 f hf
    obtain ⟨x', r', ex, ht⟩ := O.fst _ m1
    injection ex with ex
    injection ex with ex _
    subst ex
    rw [← ht]
    exact looks_reads m2
end Abv
set_option Elab.async false
set_option linter.all false
set_option maxRecDepth 100000
set_option maxHeartbeats 4000000
/-! ## sorted(xs, key=f), f a def or a lambda -/
namespace Abv
open PySem PySem.Spec PySem.SeqAt PySem.W PyProof.Rows L2
section
variable {K : PySem.W.Frag} {H H' : Hp}
mutual
theorem dp_same (e : Same H H') : ∀ {v : V} {d : PyData}, Dp K H v d → Dp K H' v d
  | _, _, .non => .non
  | _, _, .bl b => .bl b
  | _, _, .int i => .int i
  | _, _, .str x => .str x
  | _, _, .lst h t => .lst (e.seq h) (dpA_same e t)
  | _, _, .tup h t => .tup (Same.seqT e h) (dpA_same e t)
theorem dpA_same (e : Same H H') : ∀ {vs : List V} {ds : List PyData}, DpAll K H vs ds → DpAll K H' vs ds
  | _, _, .nil => .nil
  | _, _, .cons h t => .cons (dp_same e h) (dpA_same e t)
end
end
/-- an address of our own that nothing else knows -/
def FrA (X : Cx) (pins : List (Addr × Obj)) (b : Addr) : Prop := X.s_0.heap.objs.size ≤ b ∧ b ≠ X.env.locals ∧ (∀ x c, X.env.cells.lookup x = some c → c ≠ b) ∧ (∀ p ∈ X.pn ++ pins, p.1 ≠ b) ∧ b ∉ X.fs
section
variable {X : Cx} {pins : List (Addr × Obj)} {σ : L2.St} {H : Hp} {s : Shared}
theorem frA_new {b : Addr} (I : Inv X pins σ H s) (h : s.heap.objs.size ≤ b) : FrA X pins b := by
  have ne : ∀ {c : Addr} {o : Obj}, s.heap.get? c = some o → c ≠ b := fun e => Nat.ne_of_lt (Nat.lt_of_lt_of_le (Heap.lt_size e) h)
  refine ⟨Nat.le_trans I.sz h, Nat.ne_of_gt (Nat.lt_of_lt_of_le I.lt h), fun x c e => ?_, fun p hp => ne (I.pin p hp).1, I.nofs h⟩
  obtain ⟨v, o, ho, _⟩ := I.cell x c e
  exact ne ho
/-- a pinned object is written -/
theorem inv_pinset {b : Addr} {o o' : Obj} {h' : Heap} {t' : Nat} (I : Inv X ((b, o) :: pins) σ H s) (fb : FrA X pins b) (k : ∀ c u, c ≠ b → s.heap.get? c = some u → h'.get? c = some u) (hb : h'.get? b = some o') (nc : ∀ v, o'.data ≠ .cell v) :
    Inv X ((b, o') :: pins) σ H { s with heap := h', toks := t' } := by
  have hn : H b = none := (I.pin (b, o) (List.mem_append_right _ (List.mem_cons_self ..))).2.1
  have I1 : Inv X pins σ H s := I.pins_of fun p hp => I.pin p (List.mem_append_right _ (List.mem_cons_of_mem _ hp))
  have I2 : Inv X pins σ H { s with heap := h', toks := t' } := I1.turned k hn fb.2.1 (.inr fb.1) fb.2.2.1 fb.2.2.2.1
  refine I2.pins_of fun p hp => ?_
  rcases List.mem_cons.mp hp with rfl | hp
  · exact ⟨hb, hn, fb.2.1, fb.2.2.2.2, nc⟩
  · exact I2.pin p (List.mem_append_right _ hp)
/-- the sort's end: the list at a is known, the key store forgotten -/
theorem inv_sorted {a k : Addr} {ys : List V} {out : List Value} {c : Nat} {h' : Heap} {t' : Nat} (I : Inv X pins σ H s) (fa : FrA X pins a) (fk : FrA X pins k) (na : H a = none) (nk : H k = none)
    (keep : ∀ b o, b ≠ a → b ≠ k → s.heap.get? b = some o → h'.get? b = some o) (rv : Vals ys out) (hz : ys.length ≤ sizeLine) (hh : h'.get? a = some (seqObj "list" out.toArray c)) :
    Inv X pins σ (upd H a (.lst ys)) { s with heap := h', toks := t' } := by
  have nA : ∀ {b u}, H b = some u → b ≠ a := fun e z => by rw [z, na] at e; cases e
  have nK : ∀ {b u}, H b = some u → b ≠ k := fun e z => by rw [z, nk] at e; cases e
  have nch : ∀ {b : Addr}, b ∉ [a, k] → b ≠ a ∧ b ≠ k := fun h => by simpa using h
  refine I.step (g' := s.gens) (d' := s.drawn) (ch := [a, k]) (fun b hb => ?_) (fun b o _ _ hc e _ => keep b o (nch hc).1 (nch hc).2 e) (fun b o _ _ hc e _ => ⟨o.slots, keep b o (nch hc).1 (nch hc).2 e⟩)
    (fun b o hc _ n => by rw [upd_ne (nch hc).1]; exact n) (fun b o hc e => ⟨o, keep b o (nch hc).1 (nch hc).2 e⟩) (fun b xs e => by rw [upd_ne (nA e)]; exact e) (fun b o u e => by rw [upd_ne (nA e)]; exact e) (fun b ps e => ⟨#[], by rw [upd_ne (nA e), e]; simp⟩)
    (fun m hm => ?_) (fun b u e => ?_) I.bare
  · have : b = a ∨ b = k := by simpa using hb
    rcases this with rfl | rfl
    · exact ⟨.inr fa.1, fa.2.1, fa.2.2.1, fa.2.2.2.1⟩
    · exact ⟨.inr fk.1, fk.2.1, fk.2.2.1, fk.2.2.2.1⟩
  · obtain ⟨o, es, ep, ho, r⟩ := hm
    exact ⟨o, es, ep, keep _ o (Ne.symm fa.2.1) (Ne.symm fk.2.1) ho, r⟩
  · by_cases hb : b = a
    · subst hb
      rw [upd_same] at e
      cases e
      exact ⟨hz, out, c, rv, hh⟩
    · rw [upd_ne hb] at e
      refine (I.hok b u e).stay (fun c v hc q => keep c v ?_ ?_ q) (fun c q => by rw [upd_ne (nA q)]; exact q) fun c xs q => by rw [upd_ne (nA q)]; exact q
      · rcases hc with rfl | hc
        · exact hb
        · exact nA hc
      · rcases hc with rfl | hc
        · exact nK e
        · exact nK hc
/-- what a call of the key gives -/
def KeyGo {β : Type} (X : Cx) (σ : L2.St) (pins : List (Addr × Obj)) (f : Value) (H : Hp) (xs : List (V × β)) (k : β → PyData) : Prop :=
  ∀ (pins' : List (Addr × Obj)) (H' : Hp) (s' : Shared) (x : V × β) (u : Value), (∀ p ∈ pins, p ∈ pins') → Inv X pins' σ H' s' → Same H H' → x ∈ xs → RelV x.1 u →
    wpAny (model X.prog X.w) X.A.in1.in1 (call f [u]) (fun v s2 => ∃ y H2, Inv X pins' σ H2 s2 ∧ RelV y v ∧ Same H' H2 ∧ Dp X.K H2 y (k x.2)) (fun _ _ => False) s'
theorem eachIs_snoc {α β : Type} {R : α → β → Prop} {a : α} {b : β} (h : R a b) : ∀ {as : List α} {bs : List β}, EachIs R as bs → EachIs R (as ++ [a]) (bs ++ [b])
  | _, _, .nil => .cons h .nil
  | _, _, .cons h1 t => .cons h1 (eachIs_snoc h t)
theorem vals_each {β : Type} : ∀ {xs : List (V × β)} {us : List Value}, Vals (xs.map (·.1)) us → EachIs (fun u (x : V × β) => RelV x.1 u) us xs
  | [], _, h => by
    cases h
    exact .nil
  | x :: xs, _, h => by
    cases h with
    | cons h t => exact .cons h (vals_each t)
theorem each_vals {β : Type} : ∀ {us : List Value} {xs : List (V × β)}, EachIs (fun u (x : V × β) => RelV x.1 u) us xs → Vals (xs.map (·.1)) us
  | _, _, .nil => .nil
  | _, _, .cons h t => .cons h (each_vals t)
theorem srt_rest {β : Type} {a kS : Addr} {f : Value} {vs : List Value} {xs : List (V × β)} {k : β → PyData} {T : Value} {P : PySem.Fin → Shared → Prop} {E : Value → Shared → Prop} {e1 : Nat} {H0 : Hp}
    (I : Inv X ((kS, seqObj "list" #[] 0) :: (a, seqObj "list" #[] e1) :: pins) σ H s) (e0 : Same H0 H) (fa : FrA X pins a) (fk : FrA X ((a, seqObj "list" #[] e1) :: pins) kS) (hka : kS ≠ a) (rv : Vals (xs.map (·.1)) vs) (hz : vs.length ≤ sizeLine) (O : KeysOk (xs.map fun x => k x.2) T) (hT : (T == T) = true)
    (hu : ∀ x ∈ xs, X.A.in1.in1.units + (k x.2).depth < cLine) (turn : KeyGo X σ pins f H0 xs k)
    (h : ∀ (ys : List (V × β)) H' s', Inv X pins σ (upd H' a (.lst (ys.map (·.1)))) s' → Same H0 H' → H' a = none → ys.Perm xs → ys.Pairwise (fun x y => dataLt (k y.2) (k x.2) = false) → P (.done (.ret .none)) s') :
    wpAny (model X.prog X.w) X.A.in1.in1 (ksk_rest a f false vs.toArray e1 (.ref kS)) P E s := by
  have hlen := rv.length
  rw [List.length_map] at hlen
  unfold ksk_rest
  refine wpAny_bind (wpAny_rule ?_)
  rw [List.forIn_toArray]
  refine wpAny_bind (ksk_fold (fun i s' => ∃ H' kA e, Inv X ((kS, seqObj "list" kA e) :: (a, seqObj "list" #[] e1) :: pins) σ H' s' ∧ Same H0 H' ∧ EachIs (fun v d => ∃ y, RelV y v ∧ Dp X.K H' y d) kA.toList ((xs.take i).map fun x => k x.2)) vs 0 s
    ⟨H, #[], 0, I, e0, by rw [List.take_zero]; exact .nil⟩ ?step ?done)
  case step =>
    rintro j u s' hx ⟨H', kA, e, I', e', hk⟩
    simp only [Nat.zero_add] at hk ⊢
    obtain ⟨x, hxj, rx⟩ : ∃ x, xs[j]? = some x ∧ RelV x.1 u := by
      have hj : j < vs.length := (List.getElem?_eq_some_iff.mp hx).1
      have hx2 : xs[j]? = some xs[j] := List.getElem?_eq_getElem (by omega)
      obtain ⟨u', h1, h2⟩ := rv.get (show (xs.map (·.1))[j]? = some xs[j].1 by rw [List.getElem?_map, hx2]; rfl)
      rw [hx] at h1
      cases h1
      exact ⟨_, hx2, h2⟩
    have hj : j < xs.length := (List.getElem?_eq_some_iff.mp hxj).1
    refine wpAny_bind (wpAny_attempt (wpAny_mono (turn _ H' s' x u (fun p hp => List.mem_cons_of_mem _ (List.mem_cons_of_mem _ hp)) I' e' (List.mem_of_getElem? hxj) rx) (fun v s2 he => ?_) fun _ _ hF => hF.elim))
    obtain ⟨y, H2, I2, ry, e2, hd⟩ := he
    have nk2 : s2.heap.get? kS = some (seqObj "list" kA e) := (I2.pin (kS, seqObj "list" kA e) (List.mem_append_right _ (List.mem_cons_self ..))).1
    have hsz : kA.size ≤ vs.length := by
      have h1 := hk.length
      rw [Array.length_toList, List.length_map, List.length_take] at h1
      omega
    have s1 := Heap.SameBut.update s2.heap kS (Obj.mapSeq (·.push v))
    obtain ⟨c2, hc2⟩ : ∃ c2, (s2.heap.update kS (Obj.mapSeq (·.push v))).get? kS = some (seqObj "list" (kA.push v) c2) := ⟨_, get?_update_seq nk2 (·.push v)⟩
    refine wpAny_bind (listUpdate_at nk2 rfl ?_ (Nat.le_trans hsz hz) (Nat.le_trans (Nat.le_of_eq (Array.size_push ..)) (Nat.succ_le_succ (Nat.le_trans hsz hz))))
    have I3 := inv_pinset (t' := s2.toks) I2 fk (fun c u hc e => (s1.2 c hc).trans e) hc2 (fun v => by simp [seqObj])
    refine wpAny_pure ⟨rfl, H2, kA.push v, c2, I3, e'.trans e2, ?_⟩
    rw [show (kA.push v).toList = kA.toList ++ [v] by simp, List.take_add_one, hxj, List.map_append]
    exact eachIs_snoc (R := fun v d => ∃ y, RelV y v ∧ Dp X.K H2 y d) ⟨y, ry, hd⟩ (hk.mono fun v d ⟨y, r, q⟩ => ⟨y, r, dp_same e2 q⟩)
  case done =>
    rintro s' ⟨H', kA, e, I', e', hk⟩
    rw [List.take_of_length_le (by omega)] at hk
    have hk' : EachIs (fun v d => ∃ as, Reads s'.heap v d as) kA.toList (xs.map fun x => k x.2) := hk.mono fun v d ⟨y, r, q⟩ => Dp.reads I' d y v q r
    have hsz : kA.size = vs.length := by
      have h1 := hk'.length
      rw [Array.length_toList, List.length_map] at h1
      omega
    obtain ⟨nk', hHk, _⟩ := I'.pin (kS, seqObj "list" kA e) (List.mem_append_right _ (List.mem_cons_self ..))
    obtain ⟨na', hHa, _⟩ := I'.pin (a, seqObj "list" #[] e1) (List.mem_append_right _ (List.mem_cons_of_mem _ (List.mem_cons_self ..)))
    have I0 : Inv X pins σ H' s' := I'.pins_of fun p hp => I'.pin p (List.mem_append_right _ (List.mem_cons_of_mem _ (List.mem_cons_of_mem _ hp)))
    have fk0 : FrA X pins kS := ⟨fk.1, fk.2.1, fk.2.2.1, fun p hp => fk.2.2.2.1 p (by rcases List.mem_append.mp hp with h | h; exact List.mem_append_left _ h; exact List.mem_append_right _ (List.mem_cons_of_mem _ h)), fk.2.2.2.2⟩
    try dsimp only
    refine wpAny_bind (listItems_at nk' rfl ?_)
    have hn : ∀ {b : Addr}, b ≠ kS → (upd (fun _ => none) kS (.lst []) : Hp) b = none := fun hb => by rw [upd_ne hb]
    have hidK : (hidT s'.heap (upd (fun _ => none) kS (.lst []))).get? kS = none := by
      cases q : (hidT s'.heap (upd (fun _ => none) kS (.lst []))).get? kS with
      | none => rfl
      | some o =>
        have := (of_hidT q).2
        rw [upd_same] at this
        cases this
    refine keyH_end (κ := dataKind s'.heap (xs.map fun x => k x.2)) (h₁ := hidT s'.heap (upd (fun _ => none) kS (.lst []))) (fun b o _ e => (of_hidT e).1) hidK nk' na' hka (sortsAt_ok hk' O hT fun d hd => ?_) hsz hz fun h3 tk3 c k3 n3 => ?_
    · obtain ⟨x, hx, rfl⟩ := List.mem_map.mp hd
      exact hu x hx
    have hE := sortVals_each (κ := dataKind s'.heap (xs.map fun x => k x.2)) (rev := false) (R := fun u (x : V × β) => RelV x.1 u) (ks := kA.toList) (fun x => keyToks (k x.2)) (vals_each rv) ?_
    · have hp := List.mergeSort_perm xs (sortLe (dataKind s'.heap (xs.map fun x => k x.2)).toKeyOrd false fun x => keyToks (k x.2))
      have hw := List.pairwise_mergeSort (le := sortLe (dataKind s'.heap (xs.map fun x => k x.2)).toKeyOrd false fun x => keyToks (k x.2)) (fun a b c => (sortLe_total _ _ _).trans a b c) (fun a b => by
        rcases (sortLe_total (dataKind s'.heap (xs.map fun x => k x.2)).toKeyOrd false fun x => keyToks (k x.2)).total a b with h | h <;> simp [h]) xs
      refine h _ H' _ (inv_sorted (t' := tk3) I0 fa fk0 hHa hHk (fun b o ha hk e => k3 b o ha (hidT_get e (hn hk))) (each_vals hE) ?_ n3) e' hHa hp (hw.imp fun {x y} q => ?_)
      · rw [List.length_map, hp.length_eq]
        omega
      · have q' : (!(PyProof.Rows.lexLt itemOrd (keyToks (k y.2)) (keyToks (k x.2)))) = true := q
        rw [Bool.not_eq_true'] at q'
        exact q'
    · have : ∀ {us : List Value} {zs : List (V × β)}, (∀ z ∈ zs, k z.2 ∈ xs.map fun x => k x.2) → EachIs (fun v d => ∃ as, Reads s'.heap v d as) us (zs.map fun x => k x.2) → EachIs (fun v x => (dataKind s'.heap (xs.map fun x => k x.2)).keyOf v = some (keyToks (k x.2))) us zs := by
        intro us zs
        induction zs generalizing us with
        | nil =>
          intro _ q
          cases q
          exact .nil
        | cons z zs ih =>
          intro hm q
          cases q with
          | cons q1 q2 =>
            obtain ⟨as, r⟩ := q1
            exact .cons (keyOf_ok O (hm z (List.mem_cons_self ..)) r) (ih (fun z hz => hm z (List.mem_cons_of_mem _ hz)) q2)
      exact this (fun z hz => List.mem_map.mpr ⟨z, hz, rfl⟩) hk'
end
end Abv
set_option Elab.async false
set_option linter.all false
set_option maxRecDepth 100000
set_option maxHeartbeats 4000000
/-! ## sorted(xs, key=f): the call, the rules -/
namespace Abv
open PySem PySem.Spec PySem.SeqAt PyProof.Rows L2 NdefX LamX
/-- the end of such a call -/
def SrtEnd {β : Type} (xs : List (V × β)) (k : β → PyData) (H : Hp) (Q : VK) : Prop := ∀ (ys : List (V × β)) (p : Addr) (H' : Hp), Same H H' → H p = none → H' p = some (.lst (ys.map (·.1))) → ys.Perm xs → ys.Pairwise (fun x y => PySem.W.dataLt (k y.2) (k x.2) = false) → Q (.ref p) H'
/-- what is sorted by which keys -/
def SrtIn {β : Type} (K : PySem.W.Frag) (v : V) (xs : List (V × β)) (k : β → PyData) (H : Hp) : Prop := (∃ l, v = .ref l ∧ SqL K H l (xs.map (·.1))) ∧ (∃ T, KeysOk (xs.map fun x => k x.2) T ∧ (T == T) = true) ∧ ∀ x ∈ xs, (k x.2).depth ≤ 10
section
variable {X : Cx} {pins : List (Addr × Obj)} {σ : L2.St} {H : Hp} {s : Shared}
theorem srt_call {β : Type} {l : Addr} {fv : Value} {xs : List (V × β)} {k : β → PyData} {T : Value} {Q : VK} (I : Inv X pins σ H s) (hs : SqL X.K H l (xs.map (·.1))) (O : KeysOk (xs.map fun x => k x.2) T) (hT : (T == T) = true) (hu : ∀ x ∈ xs, X.A.in1.in1.units + (k x.2).depth < cLine)
    (hf : ∃ f, fv = .ref f) (turn : KeyGo X σ pins fv H xs k) (q : SrtEnd xs k H Q) : wpAny (model X.prog X.w) X.A (call (.builtin "sorted") [.ref l] [(Str.ofString "key", fv)]) (EP X pins σ Q) X.xe s := by
  obtain ⟨f, rfl⟩ := hf
  obtain ⟨vs, rv, hl, hz⟩ := I.list hs
  have hlen := rv.length
  rw [List.length_map] at hlen hz
  have hZ : vs.length ≤ sizeLine := by omega
  refine PySem.W.sorted_of_sort hl.isList hZ (ksk_s1 _ _) (fun _ => ksk_l1 _ _) fun E' => ?_
  rw [ksk_t1]
  have ho := PySem.W.copyHeap_at s.heap vs
  have ha : s.heap.objs.size + 1 < (PySem.W.copyHeap s.heap vs).objs.size := Heap.lt_size ho
  obtain ⟨e1, ho1⟩ : ∃ e1, ((PySem.W.copyHeap s.heap vs).update (s.heap.objs.size + 1) (Obj.mapSeq fun _ => (#[] : Array Value))).get? (s.heap.objs.size + 1) = some (seqObj "list" #[] e1) := ⟨_, get?_update_seq ho fun _ => #[]⟩
  have hkS : (((PySem.W.copyHeap s.heap vs).update (s.heap.objs.size + 1) (Obj.mapSeq fun _ => (#[] : Array Value))).push (seqObj "tuple" vs.toArray 0)).objs.size = (PySem.W.copyHeap s.heap vs).objs.size + 1 := by rw [size_push', Heap.size_update]
  unfold ksk_tree
  refine wpAny_bind (listItems_at ho rfl ?_)
  refine wpAny_bind (listUpdate_at ho rfl ?_ (by rw [List.size_toArray]; exact hZ) (Nat.zero_le _))
  refine wpAny_bind (seqEpoch_at ho1 rfl ?_)
  refine wpAny_bind (wpAny_newTuple ?_ (by show vs.length ≤ _; exact hZ))
  refine wpAny_bind (wpAny_newList ?_ (Nat.zero_le _))
  refine wpAny_holding ?_
  have fa : FrA X pins (s.heap.objs.size + 1) := frA_new I (Nat.le_succ _)
  have hge : s.heap.objs.size ≤ (((PySem.W.copyHeap s.heap vs).update (s.heap.objs.size + 1) (Obj.mapSeq fun _ => (#[] : Array Value))).push (seqObj "tuple" vs.toArray 0)).objs.size := by
    rw [hkS]
    omega
  have fk : FrA X pins (((PySem.W.copyHeap s.heap vs).update (s.heap.objs.size + 1) (Obj.mapSeq fun _ => (#[] : Array Value))).push (seqObj "tuple" vs.toArray 0)).objs.size := frA_new I hge
  have hka : (((PySem.W.copyHeap s.heap vs).update (s.heap.objs.size + 1) (Obj.mapSeq fun _ => (#[] : Array Value))).push (seqObj "tuple" vs.toArray 0)).objs.size ≠ s.heap.objs.size + 1 := by
    rw [hkS]
    omega
  have nA : H (s.heap.objs.size + 1) = none := I.hok.fresh (Nat.le_succ _)
  have nK := I.hok.fresh hge
  generalize hkk : (((PySem.W.copyHeap s.heap vs).update (s.heap.objs.size + 1) (Obj.mapSeq fun _ => (#[] : Array Value))).push (seqObj "tuple" vs.toArray 0)).objs.size = kS at fk hka nK
  have I1 : Inv X pins σ H { s with heap := PySem.W.sortingHeap (PySem.W.copyHeap s.heap vs) (s.heap.objs.size + 1) vs, toks := s.toks } := I.kept fun b o e => PySem.W.sorting_copy_old e
  have I2 : Inv X ((kS, seqObj "list" #[] 0) :: (s.heap.objs.size + 1, seqObj "list" #[] e1) :: pins) σ H { s with heap := PySem.W.sortingHeap (PySem.W.copyHeap s.heap vs) (s.heap.objs.size + 1) vs, toks := s.toks } := by
    refine I1.pins_of fun p hp => ?_
    rcases List.mem_cons.mp hp with rfl | hp
    · refine ⟨?_, nK, fk.2.1, fk.2.2.2.2, fun v => by simp [seqObj]⟩
      show (PySem.W.sortingHeap (PySem.W.copyHeap s.heap vs) (s.heap.objs.size + 1) vs).get? kS = _
      rw [← hkk]
      exact Heap.get?_push_size _ rfl
    rcases List.mem_cons.mp hp with rfl | hp
    · exact ⟨Heap.get?_push_of_some _ (Heap.get?_push_of_some _ ho1), nA, fa.2.1, fa.2.2.2.2, fun v => by simp [seqObj]⟩
    · exact I1.pin p (List.mem_append_right _ hp)
  have fk2 : FrA X ((s.heap.objs.size + 1, seqObj "list" #[] e1) :: pins) kS := ⟨fk.1, fk.2.1, fk.2.2.1, fun p hp => by
    rcases List.mem_append.mp hp with h | h
    · exact fk.2.2.2.1 p (List.mem_append_left _ h)
    rcases List.mem_cons.mp h with rfl | h
    · exact Ne.symm hka
    · exact fk.2.2.2.1 p (List.mem_append_right _ h), fk.2.2.2.2⟩
  refine srt_rest (s := { s with heap := PySem.W.sortingHeap (PySem.W.copyHeap s.heap vs) (s.heap.objs.size + 1) vs, toks := s.toks }) (H0 := H) I2 (Same.refl H) fa fk2 hka rv hZ O hT hu turn fun ys H' s' J e nA' hp hw => ⟨rfl, .ref (s.heap.objs.size + 1), _, J, rfl, q ys _ _ (Same.upd e nA) nA upd_same hp hw⟩
/-- key=f, f a def -/
theorem keyGo_fn {β : Type} {f : Addr} {k0 : Nat} {sp : Sp} {xs : List (V × β)} {k : β → PyData} (F : FnR X.prog X.w X.K X.mg X.base CX0 k0 f sp) (hr : Room (k0 + 2) X.A) (hk : ∀ x ∈ xs, ∀ H2, Same H H2 → sp [x.1] H2 (fun y H3 => Same H2 H3 ∧ Dp X.K H3 y (k x.2)) E0) :
    KeyGo X σ pins (.ref f) H xs k := by
  intro pins' H' s' x u _ I e hx rx
  refine wpAny_call (codeAny_mono (F _ X.stack s' H' [u] [x.1] _ E0 hr.in1.in1 I.env0.in1.in1 (.cons rx .nil) (hk x hx H' e)) fun r s2 hq => ?_)
  cases r with
  | error e => exact False.elim hq
  | ok fl =>
    cases fl with
    | ret u =>
      obtain ⟨v, H2, I3, rv, q1, q2⟩ := I.after hq
      exact ⟨v, H2, I3, rv, q1, q2⟩
    | next => exact False.elim hq
    | brk => exact False.elim hq
    | cont => exact False.elim hq
end
section
variable {X : Cx} {K : PySem.W.Frag}
def rSrtF (K : PySem.W.Frag) (f : Addr) (sp : Sp) : List V → List V → Hp → VK → Prop := fun vs zs H Q => ∃ (v : V) (β : Type) (xs : List (V × β)) (k : β → PyData), vs = [v] ∧ zs = [.ref f] ∧ SrtIn K v xs k H ∧ (∀ x ∈ xs, ∀ H2, Same H H2 → sp [x.1] H2 (fun y H3 => Same H2 H3 ∧ Dp K H3 y (k x.2)) E0) ∧ SrtEnd xs k H Q
theorem cr_srtF {f : Addr} {k0 : Nat} {sp : Sp} (F : FnR X.prog X.w X.K X.mg X.base CX0 k0 f sp) (hr : Room (k0 + 2) X.A) (hK : X.K = K := by rfl) : CallRK X (.builtin "sorted") [Str.ofString "key"] (rSrtF K f sp) := by
  subst hK
  intro pins s σ H vs zs us ws Q I r rz h
  obtain ⟨v, β, xs, k, rfl, rfl, ⟨⟨l, rfl, hs⟩, ⟨T, O, hT⟩, hd⟩, hk, hq⟩ := h
  obtain rfl := Vals.ref1 r
  obtain ⟨w1, rfl, e1⟩ := vals1 rz
  obtain rfl : w1 = Value.ref f := e1
  refine srt_call I hs O hT (fun x hx => ?_) ⟨f, rfl⟩ (keyGo_fn F hr hk) hq
  have := (show Room k0 X.A.in1.in1 from hr.in1.in1).units
  have := hd x hx
  omega
end
/-! ### a lambda with parameters, without captured names -/
abbrev lamNF (q : Str) (params : Arguments) (scope : Scope) (c' : Addr) : NF := ⟨"<lambda>", q, params, [], scope, [], c'⟩
theorem run_lam {P : Program} {w : World} {K : PySem.W.Frag} {mg : Str → Option Value} {base : Heap} {N ps : List Str} {params : Arguments} {body : Expr} {scope : Scope} {q : Str} {pm ctv : Value} {c' f : Addr} {A : Around} {outer : List Env} {s : Shared} {H : Hp} {us : List Value} {vs : List V} {Q : VK} {k : Nat}
    (of : s.heap.get? f = some (PySem.W.kla_obj "<lambda>" q params body scope [] pm c' ctv)) (hc : H c' = some (CodeO c' q)) (S : NScope N ps [] scope)
    (hb : bindArgs (PySem.W.kla_fn "<lambda>" q params body scope [] pm (.ref c') ctv) ⟨us, []⟩ = pure (ps.zip us)) (hr : Room (k + 1) A) (e0 : Env0 P w K mg base A outer s H) (r : Vals vs us) (hl : vs.length = ps.length)
    (hbody : Room k (A.deeper (envF (lamNF q params scope c') f s.heap.objs.size)) → ∃ te, PE (ncx CX0 P w K mg base N (lamNF q params scope c') f A outer s H E0) body te ∧ te (startF N vs []) H Q) :
    codeAny (model P w) A (.call (.ref f) ⟨us, []⟩) (CR CX0 outer P w H s Q E0) s := by
  have lim : s.heap.NoLimit := e0.mod.nolimit.keeps fun b o e => (e0.bs b o e).1
  refine PySem.W.kla_callFunE hr.depth of rfl S.co S.gen rfl (codeO_at e0.hok hc) ?_
  rw [hb]
  refine wpAny_pure (wpAny_newFunctionEnv S.nocell (fun ⟨n, _⟩ hy => S.par n (List.of_mem_zip hy).1) (fun h₁ hns hsb => ⟨lim.fresh _ hsb, ?_⟩) S.kind)
  show codeAny _ _ (.expr body (envF (lamNF q params scope c') f s.heap.objs.size)) _ _
  have kp : ∀ b o, s.heap.get? b = some o → h₁.get? b = some o := fun b o e => hsb.extBut b o (Nat.ne_of_lt (Heap.lt_size e)) (Heap.get?_push_of_some _ e)
  obtain ⟨te, ht, hq⟩ := hbody (hr.deeper _)
  have C : CellsAt (lamNF q params scope c').cl [] [] s.heap H := ⟨rfl, fun y c e => (by cases e), fun x y c e => (by cases e), fun i y h => (by simp at h)⟩
  have I : Inv (ncx CX0 P w K mg base N (lamNF q params scope c') f A outer s H E0) [] (startF N vs []) H { s with heap := h₁, toks := s.toks + (ps.zip us).length } := inv_startN S hr.hd e0 hl r C hns kp
  refine PySem.W.kla_codeExpr (wpAny_mono (ht.run [] _ (startF N vs []) H Q I hq) (fun v s' h => ?_) fun e s' h => h)
  obtain ⟨y, H', J, rv, q⟩ := h
  exact ⟨y, H', J.os, J.bare, J.base, J.hok, rv, q⟩
section
variable {X : Cx} {K : PySem.W.Frag}
/-- the lambda's table; what is sorted by it -/
def tSrtL (K : PySem.W.Frag) (T : List (Addr × Str)) (N : List Str) (tb : TE) (t : TA) : TE := fun σ H Q => t σ H fun vs H1 => Tabs T H1 ∧ ∀ H2, ExtN H1 H2 → Tabs T H2 → ∃ (v : V) (β : Type) (xs : List (V × β)) (k : β → PyData), vs = [v] ∧ SrtIn K v xs k H2 ∧
  (∀ x ∈ xs, ∀ H3, Same H2 H3 → tb (startF N [x.1] []) H3 (fun y H4 => Same H3 H4 ∧ Dp K H4 y (k x.2))) ∧ SrtEnd xs k H2 Q
theorem pe_sortLam {T : List (Addr × Str)} {c P : Addr} {N : List Str} {pn : Str} {k0 : Nat} {params : Arguments} {body : Expr} {scope : Scope} {e : Expr} {t : TA} {tb : TE} {p pos kp lpos : Pos} (hg : Gl X "sorted") (hm : X.mg "sorted" = none) (ha : PA X [e] t)
    (TB : TabB X.base X.mg c P) (hcode : X.env.code = .ref c) (hmT : (P, X.env.qual ++ "<lambda>") ∈ T) (hu : ∀ p ∈ T, p.1 = P → p.2 = X.env.qual ++ "<lambda>") (hr : Room (k0 + 3) X.A) (S : NScope N [pn] [] scope) (hdef : defaultsOf params X.env = ([], []))
    (hcl : cloFrom X.env.cells scope.names [] = []) (hfree : ∀ y ∈ scope.names, y.2 = .free → ∃ c, X.env.cells.lookup y.1 = some c)
    (hbind : ∀ (q : Str) (pm cv ctv u : Value), bindArgs (PySem.W.kla_fn "<lambda>" q params body scope [] pm cv ctv) ⟨[u], []⟩ = pure ([pn].zip [u]))
    (hbody : ∀ (A : Around) (outer : List Env) (s : Shared) (H : Hp) (f c' : Addr), Room k0 (A.deeper (envF (lamNF (X.env.qual ++ "<lambda>") params scope c') f s.heap.objs.size)) → PE (ncx CX0 X.prog X.w X.K X.mg X.base N (lamNF (X.env.qual ++ "<lambda>") params scope c') f A outer s H E0) body tb)
    (hK : X.K = K := by rfl) (hs : backTo pos (starEach [e] X.env) = (false, eval e X.env) :: backTo pos (starEach [] X.env) := by rfl) :
    PE X (.Call (.Name "sorted" p) [e] [⟨some "key", .Lambda params body scope lpos, kp⟩] pos) (tSrtL K T N tb t) := by
  subst hK
  refine ⟨fun pins s σ H Q I h => ?_⟩
  refine wpAny_Call_Name_kw (ld_blt I hg hm rfl ?_ (by decide) (by decide))
  refine PyProof.Rows.callWith_kw (thn (ha.run pos pins s σ H _ I h) fun us s1 ⟨vs, H1, I1, r1, hT, q1⟩ => ?_) hs (by rw [hs]; rfl) (by rfl) (by rfl)
  show wpAny _ _ (evalAll [do let v ← eval (.Lambda params body scope lpos) X.env; standAt pos; pure v]) _ _ s1
  refine wpAny_evalAll_cons (wpAny_bind (lam_make2 I1 TB hcode hmT hu hT hdef hfree fun f c' pm ctv H2 s2 I2 eN T2 hf hfn hfr hco => wpAny_bind (wpAny_standAt (wpAny_pure (wpAny_evalAll_nil ?_)))))
  show wpAny _ _ (call (.builtin "sorted") us [(Str.ofString "key", .ref f)]) _ _ s2
  obtain ⟨v, β, xs, k, rfl, ⟨⟨l, rfl, hs⟩, ⟨Ty, O, hTy⟩, hd⟩, hk, hq⟩ := q1 H2 eN T2
  obtain rfl := Vals.ref1 r1
  rw [hcl] at hf
  have hfL : f ≠ X.env.locals := fun z => by
    obtain ⟨m, ⟨o, es, ep, ho, hd', _⟩, _⟩ := I2.loc
    rw [← z, hf] at ho
    cases ho
    cases hd'
  have I3 : Inv X ((f, PySem.W.kla_obj "<lambda>" (X.env.qual ++ "<lambda>") params body scope [] pm c' ctv) :: pins) σ H2 s2 := I2.pins_of fun p hp => by
    rcases List.mem_cons.mp hp with rfl | hp
    · refine ⟨hf, hfn, hfL, fun z => hfr ?_, fun v => by simp⟩
      rcases I2.ok.stk with e | ⟨e, _⟩
      · rw [e]
        exact z
      · rw [e]
        unfold frs
        rw [List.filterMap_cons]
        split
        · exact z
        · exact List.mem_cons_of_mem _ z
    · exact I2.pin p (List.mem_append_right _ hp)
  have hun : ∀ x ∈ xs, X.A.in1.in1.units + (k x.2).depth < cLine := fun x hx => by
    have := (show Room (k0 + 1) X.A.in1.in1 from hr.in1.in1).units
    have := hd x hx
    omega
  have key := srt_call (Q := Q) I3 hs O hTy hun ⟨f, rfl⟩ ?_ hq
  · refine thn key fun u s3 ⟨v, H3, J, rv, q⟩ => ⟨v, H3, J.pins_of fun p hp => J.pin p (List.mem_append_right _ (List.mem_cons_of_mem _ hp)), rv, q⟩
  · intro pins' H' s' x u hp J e hx rx
    have of1 := (J.pin _ (List.mem_append_right _ (hp _ (List.mem_cons_self ..)))).1
    refine wpAny_call (codeAny_mono (run_lam of1 (e _ _ hco) S (hbind _ _ _ _ _) (show Room (k0 + 1) X.A.in1.in1 from hr.in1.in1) J.env0.in1.in1 (.cons rx .nil) rfl fun hr' => ⟨tb, hbody _ _ _ _ _ _ hr', hk x hx H' e⟩) fun r s3 hq => ?_)
    cases r with
    | error e => exact False.elim hq
    | ok fl =>
      cases fl with
      | ret u =>
        obtain ⟨v, H3, I4, rv, q1, q2⟩ := J.after hq
        exact ⟨v, H3, I4, rv, q1, q2⟩
      | next => exact False.elim hq
      | brk => exact False.elim hq
      | cont => exact False.elim hq
end
end Abv
set_option Elab.async false
set_option linter.all false
set_option maxRecDepth 100000
set_option maxHeartbeats 4000000
/-! ## sorted(a tuple of texts) -/
namespace Abv
open PySem PySem.Spec PySem.SeqAt PyProof.Rows L2
/-- each of them is a text -/
theorem each_strs {h : Heap} : ∀ {xs : List Str} {us : List Value}, Vals (xs.map V.str) us → PySem.W.EachIs (fun v b => ∃ as, Reads h v (PyData.str b) as) us xs ∧ PySem.W.EachIs (fun v b => RelV (.str b) v) us xs
  | [], _, r => by
    cases r
    exact ⟨.nil, .nil⟩
  | x :: xs, _, r => by
    cases r with
    | cons hx t =>
      obtain ⟨t', rfl⟩ := hx
      have ih := each_strs (h := h) t
      exact ⟨.cons ⟨_, .str _ _⟩ ih.1, .cons ⟨t', rfl⟩ ih.2⟩
theorem each_strs_back : ∀ {xs : List Str} {us : List Value}, PySem.W.EachIs (fun v b => RelV (.str b) v) us xs → Vals (xs.map V.str) us
  | [], _, h => by
    cases h
    exact .nil
  | x :: xs, _, h => by
    cases h with
    | cons h t => exact .cons h (each_strs_back t)
theorem strs_layA : ∀ xs : List Str, PySem.W.AllAlike (xs.map PyData.str) := fun xs d hd d' hd' => by
  obtain ⟨x, _, rfl⟩ := List.mem_map.mp hd
  obtain ⟨y, _, rfl⟩ := List.mem_map.mp hd'
  simp [PySem.W.alike]
section
variable {prog : Program} {w : World} {A : Around} {E : Value → Shared → Prop} {s : Shared}
/-- sorted(t) is list.sort on a new list of the tuple's items -/
theorem sorted_tup {l : Addr} {us : List Value} {Q : Value → Shared → Prop} (ht : s.heap.IsTuple l us.toArray) (hL : us.length ≤ sizeLine)
    (body : ∀ (E' : Value → Shared → Prop) (g : Heap), (∀ b o, s.heap.get? b = some o → g.get? b = some o) →
      wpAny (model prog w) A.in1.in1 (Builtin.«list.sort» ⟨[.ref g.objs.size], []⟩) (fun f s' => f = .done (.ret .none) ∧ Q (.ref g.objs.size) s') E' { s with heap := g.push (seqObj "list" us.toArray 0) }) :
    wpAny (model prog w) A (call (.builtin "sorted") [.ref l]) Q E s := by
  obtain ⟨o, ho, hc, n, hd⟩ := ht
  refine call_function_entry_kw kind_sorted plain_sorted entry_sorted (args_sorted1 _) ?_
  unfold Builtin.«sorted»
  refine wpAny_bind (m := checkCount "sorted" 1 1 _) (wpAny_pure ?_)
  refine wpAny_bind (wpAny_collect_seq l (.inr rfl) ho hc hd (fun g hg => ?_) (by rw [List.size_toArray]; exact hL))
  show wpAny _ _ _ _ _ _
  refine wpAny_bind (wpAny_newList ?_ (by simpa using hL))
  have hat : (g.push (seqObj "list" us.toArray 0)).get? g.objs.size = some (seqObj "list" us.toArray 0) := Heap.get?_push_size _ rfl
  refine wpAny_bind (wpAny_holding (wpAny_call_entry_kw slot_list_sort ⟨_, hat, rfl⟩ entry_list_sort ?body (args_list_sort _)))
  case body =>
    refine wpAny_mono (body _ g hg) (fun f s' hf => ?_) fun _ _ e => e
    obtain ⟨rfl, hq⟩ := hf
    exact ⟨_, rfl, wpAny_pure ⟨_, rfl, hq⟩⟩
end
def rSrtT (K : PySem.W.Frag) : List V → Hp → VK → Prop := fun vs H Q => ∃ (a : Addr) (xs : List Str), vs = [V.ref a] ∧ SqT K H a (xs.map V.str) ∧ xs.length < 64 ∧
  ∀ (ys : List Str) (p : Addr), ys.Perm xs → ys.Pairwise sle → H p = none → Q (.ref p) (upd H p (.lst (ys.map V.str)))
theorem cr_srtT {X : Cx} {K : PySem.W.Frag} (hu : X.A.in1.in1.units < cLine) (hK : X.K = K := by rfl) : CallR X (.builtin "sorted") (rSrtT K) := by
  subst hK
  intro pins s σ H vs us Q I r h
  obtain ⟨a, xs, rfl, hs, h64, q⟩ := h
  obtain rfl := Vals.ref1 r
  obtain ⟨its, rv, ht, hz⟩ := I.tuple hs
  have hlen := rv.length
  rw [List.length_map] at hlen
  have hZ : its.length ≤ sizeLine := by rw [← hlen]; exact small64 h64
  refine sorted_tup ht hZ fun E' g hg => ?_
  have hat : (g.push (seqObj "list" its.toArray 0)).get? g.objs.size = some (seqObj "list" its.toArray 0) := Heap.get?_push_size _ rfl
  have I1 : Inv X pins σ H { s with heap := g, toks := s.toks } := I.kept hg
  refine PySem.W.list_sort_vals (s := { s with heap := g.push (seqObj "list" its.toArray 0) }) (κ := PySem.W.dataKind (PySem.W.sortingHeap (g.push (seqObj "list" its.toArray 0)) g.objs.size its) (xs.map PyData.str)) hat
    (PySem.W.SortsAt.data (s := { s with heap := PySem.W.sortingHeap (g.push (seqObj "list" its.toArray 0)) g.objs.size its }) (PySem.W.each_map PyData.str (each_strs rv).1) (strs_layA xs) (.inr fun d hd => ?_) fun d hd => ?_) hZ ⟨rfl, ?_⟩
  · obtain ⟨x, _, rfl⟩ := List.mem_map.mp hd
    exact ⟨by simp, by simp⟩
  · obtain ⟨x, _, rfl⟩ := List.mem_map.mp hd
    exact hu
  have hE := PySem.W.sortVals_data (h' := PySem.W.sortingHeap (g.push (seqObj "list" its.toArray 0)) g.objs.size its) (R := fun v b => RelV (.str b) v) (enc := PyData.str) false (each_strs (h := s.heap) rv).2 (each_strs rv).1 (strs_layA xs)
  have hp := List.mergeSort_perm xs (PySem.W.dataLe false PyData.str)
  have hw := List.pairwise_mergeSort (le := PySem.W.dataLe false PyData.str) (fun a b c => (PySem.W.sortLe_total _ _ _).trans a b c) (fun a b => by
    rcases (PySem.W.sortLe_total (listOrd itemOrd) false fun b => PySem.W.keyToks (PyData.str b)).total a b with h | h
    · exact Bool.or_eq_true_iff.mpr (.inl h)
    · exact Bool.or_eq_true_iff.mpr (.inr h)) xs
  obtain ⟨ep, he⟩ := sortedHeap_at (vs := its) (out := (PySem.W.sortVals (PySem.W.dataKind (PySem.W.sortingHeap (g.push (seqObj "list" its.toArray 0)) g.objs.size its) (xs.map PyData.str)) false its its).toArray) hat
  refine ⟨.ref g.objs.size, upd H g.objs.size (.lst ((xs.mergeSort (PySem.W.dataLe false PyData.str)).map V.str)), ?_, rfl, q _ _ hp (hw.imp fun {x y} h => ?_) (I1.hok.fresh (Nat.le_refl _))⟩
  · have J := Inv.laid (a := g.objs.size) (o := .lst ((xs.mergeSort (PySem.W.dataLe false PyData.str)).map V.str)) (t' := s.toks) (h' := sortedHeap (g.push (seqObj "list" its.toArray 0)) g.objs.size its (PySem.W.sortVals (PySem.W.dataKind (PySem.W.sortingHeap (g.push (seqObj "list" its.toArray 0)) g.objs.size its) (xs.map PyData.str)) false its its).toArray) I1 (fun b o e => ?_) (Nat.le_refl _) ⟨by rw [List.length_map, hp.length_eq]; exact small64 h64, _, ep, each_strs_back hE, he⟩
    · exact J
    have hlt := Heap.lt_size e
    rw [sortedHeap_old (Nat.ne_of_lt hlt) (by rw [size_push']; exact Nat.lt_succ_of_lt hlt)]
    exact Heap.get?_push_of_some _ e
  · have h' : (!PySem.W.dataLt (.str y) (.str x)) = true := h
    rw [Bool.not_eq_true', PySem.W.dataLt_str, decide_eq_false_iff_not] at h'
    exact h'
end Abv
set_option Elab.async false
set_option linter.all false
set_option maxRecDepth 100000
set_option maxHeartbeats 4000000
/-! ## The labels below: plain -/
namespace Abv
open PySem PySem.Spec PyProof.Rows L2
/-- what the law's own list of labels is, before it is sorted -/
def subs (ms : List Str) : List (List Str) := ms.foldl (fun acc m => acc ++ acc.map (· ++ [m])) [[]]
theorem subs_snoc (ms : List Str) (m : Str) : subs (ms ++ [m]) = subs ms ++ (subs ms).map (· ++ [m]) := by
  unfold subs
  rw [List.foldl_append]
  rfl
theorem subs_len (ms : List Str) : (subs ms).length = 2 ^ ms.length := by
  suffices h : ∀ n (ms : List Str), ms.length = n → (subs ms).length = 2 ^ n from h _ ms rfl
  intro n
  induction n with
  | zero =>
    intro ms h
    rw [List.length_eq_zero_iff.mp h]
    rfl
  | succ n ih =>
    intro ms h
    rcases List.eq_nil_or_concat ms with rfl | ⟨l, m, e⟩
    · cases h
    rw [List.concat_eq_append] at e
    subst e
    have hl : l.length = n := by simpa using h
    rw [subs_snoc, List.length_append, List.length_map, ih l hl, Nat.pow_succ]
    omega
theorem rise_snoc {l : List Str} {m : Str} : Rise (l ++ [m]) ↔ Rise l ∧ ∀ x ∈ l, slt x m := by
  unfold Rise
  rw [List.pairwise_append]
  constructor
  · intro h
    exact ⟨h.1, fun x hx => h.2.2 x hx m (List.mem_singleton.mpr rfl)⟩
  · intro h
    exact ⟨h.1, List.pairwise_singleton _ _, fun a ha b hb => by rw [List.mem_singleton.mp hb]; exact h.2 a ha⟩
theorem slt_irr (x : Str) : ¬ slt x x := List.lt_irrefl _
theorem slt_asym {x y : Str} (h : slt x y) (h' : slt y x) : False := List.lt_irrefl _ (List.lt_trans h h')
theorem mem_subs {ms : List Str} (hr : Rise ms) (l : List Str) : l ∈ subs ms ↔ Rise l ∧ ∀ x ∈ l, x ∈ ms := by
  suffices h : ∀ n (ms : List Str), ms.length = n → Rise ms → ∀ l, l ∈ subs ms ↔ Rise l ∧ ∀ x ∈ l, x ∈ ms from h _ ms rfl hr l
  intro n
  induction n with
  | zero =>
    intro ms h _ l
    rw [List.length_eq_zero_iff.mp h]
    constructor
    · intro hl
      have : l = [] := by simpa [subs] using hl
      subst this
      exact ⟨List.Pairwise.nil, fun x hx => by cases hx⟩
    · rintro ⟨_, h⟩
      cases l with
      | nil => simp [subs]
      | cons x r => exact absurd (h x (List.mem_cons_self ..)) (by simp)
  | succ n ih =>
    intro ms h hr l
    rcases List.eq_nil_or_concat ms with rfl | ⟨ls, m, e⟩
    · cases h
    rw [List.concat_eq_append] at e
    subst e
    have hl : ls.length = n := by simpa using h
    obtain ⟨hr1, hr2⟩ := rise_snoc.mp hr
    have ih := ih ls hl hr1
    rw [subs_snoc, List.mem_append, List.mem_map]
    constructor
    · rintro (h | ⟨l', h, rfl⟩)
      · obtain ⟨h1, h2⟩ := (ih l).mp h
        exact ⟨h1, fun x hx => List.mem_append_left _ (h2 x hx)⟩
      · obtain ⟨h1, h2⟩ := (ih l').mp h
        refine ⟨rise_snoc.mpr ⟨h1, fun x hx => hr2 x (h2 x hx)⟩, fun x hx => ?_⟩
        rcases List.mem_append.mp hx with hx | hx
        · exact List.mem_append_left _ (h2 x hx)
        · exact List.mem_append_right _ hx
    · rintro ⟨h1, h2⟩
      by_cases hm : m ∈ l
      · right
        rcases List.eq_nil_or_concat l with rfl | ⟨l', x, e⟩
        · cases hm
        rw [List.concat_eq_append] at e
        subst e
        obtain ⟨k1, k2⟩ := rise_snoc.mp h1
        have hx : x = m := by
          rcases List.mem_append.mp hm with hm' | hm'
          · have a := k2 m hm'
            rcases List.mem_append.mp (h2 x (List.mem_append_right _ (List.mem_singleton.mpr rfl))) with q | q
            · exact absurd (hr2 x q) fun b => slt_asym a b
            · exact List.mem_singleton.mp q
          · exact (List.mem_singleton.mp hm').symm
        subst hx
        refine ⟨l', (ih l').mpr ⟨k1, fun y hy => ?_⟩, rfl⟩
        rcases List.mem_append.mp (h2 y (List.mem_append_left _ hy)) with q | q
        · exact q
        · rw [List.mem_singleton.mp q] at hy
          exact absurd (k2 x hy) (slt_irr x)
      · left
        refine (ih l).mpr ⟨h1, fun y hy => ?_⟩
        rcases List.mem_append.mp (h2 y hy) with q | q
        · exact q
        · rw [List.mem_singleton.mp q] at hy
          exact absurd hy hm
theorem subs_nodup {ms : List Str} (hr : Rise ms) : (subs ms).Nodup := by
  suffices h : ∀ n (ms : List Str), ms.length = n → Rise ms → (subs ms).Nodup from h _ ms rfl hr
  intro n
  induction n with
  | zero =>
    intro ms h _
    rw [List.length_eq_zero_iff.mp h]
    simp [subs]
  | succ n ih =>
    intro ms h hr
    rcases List.eq_nil_or_concat ms with rfl | ⟨ls, m, e⟩
    · cases h
    rw [List.concat_eq_append] at e
    subst e
    have hl : ls.length = n := by simpa using h
    obtain ⟨hr1, hr2⟩ := rise_snoc.mp hr
    have ih := ih ls hl hr1
    rw [subs_snoc, List.nodup_append]
    refine ⟨ih, ?_, fun a ha b hb e => ?_⟩
    · refine List.pairwise_map.mpr (ih.imp fun {a b} hne e => hne ?_)
      exact List.append_cancel_right e
    · obtain ⟨l', _, rfl⟩ := List.mem_map.mp hb
      subst e
      have := ((mem_subs hr1 _).mp ha).2 m (List.mem_append_right _ (List.mem_singleton.mpr rfl))
      exact slt_irr m (hr2 m this)
/-! ### belows -/
theorem mem_chs {ms : List Str} : ∀ (n : Nat) (c : List Str), c ∈ chs ms n ↔ c.length = n ∧ Rise c ∧ ∀ x ∈ c, x ∈ ms
  | 0, c => by
    constructor
    · intro h
      exact ⟨chs_len ms 0 c h, chs_rise 0 c h, chs_mem ms 0 c h⟩
    · rintro ⟨h, _⟩
      rw [List.length_eq_zero_iff.mp h]
      simp [chs]
  | n + 1, c => by
    constructor
    · intro h
      exact ⟨chs_len ms _ c h, chs_rise _ c h, chs_mem ms _ c h⟩
    · rintro ⟨h, hr, hm⟩
      rcases List.eq_nil_or_concat c with rfl | ⟨l, m, e⟩
      · cases h
      rw [List.concat_eq_append] at e
      subst e
      obtain ⟨k1, k2⟩ := rise_snoc.mp hr
      rw [chs, List.mem_flatMap]
      refine ⟨l, (mem_chs n l).mpr ⟨by simpa using h, k1, fun x hx => hm x (List.mem_append_left _ hx)⟩, List.mem_map.mpr ⟨m, List.mem_filter.mpr ⟨hm m (List.mem_append_right _ (List.mem_singleton.mpr rfl)), ?_⟩, rfl⟩⟩
      unfold okc
      cases q : l.getLast? with
      | none => rfl
      | some x => exact decide_eq_true (k2 x (List.mem_of_getLast? q))
theorem rise_nodup {l : List Str} (h : Rise l) : l.Nodup := h.imp fun {a b} h e => by
  subst e
  exact slt_irr a h
theorem mem_belows {ms : List Str} (l : List Str) : l ∈ belows ms ↔ Rise l ∧ ∀ x ∈ l, x ∈ ms := by
  unfold belows
  rw [List.mem_flatMap]
  constructor
  · rintro ⟨n, _, h⟩
    exact ((mem_chs n l).mp h).2
  · rintro ⟨h1, h2⟩
    refine ⟨l.length, List.mem_range.mpr ?_, (mem_chs _ l).mpr ⟨rfl, h1, h2⟩⟩
    exact Nat.lt_succ_of_le ((rise_nodup h1).length_le_of_subset h2)
/-- the order of labels -/
def lbLt (x y : List Str) : Prop := x.length < y.length ∨ (x.length = y.length ∧ x.map (fun s => s.cps.toList) < y.map (fun s => s.cps.toList))
theorem lbLt_irr (x : List Str) : ¬ lbLt x x := by
  rintro (h | ⟨_, h⟩)
  · exact Nat.lt_irrefl _ h
  · exact List.lt_irrefl _ h
theorem lex_append_lt {l l' : List (List Nat)} {a b : List Nat} (hl : l.length = l'.length) (h : l < l') : l ++ [a] < l' ++ [b] := by
  induction l generalizing l' with
  | nil =>
    cases l' with
    | nil => exact absurd h (List.lt_irrefl _)
    | cons y r => cases hl
  | cons x r ih =>
    cases l' with
    | nil => cases hl
    | cons y r' =>
      rw [List.cons_append, List.cons_append, List.cons_lt_cons_iff]
      rcases List.cons_lt_cons_iff.mp h with h1 | ⟨h1, h2⟩
      · exact .inl h1
      · exact .inr ⟨h1, ih (by simpa using hl) h2⟩
theorem lex_append_same {l : List (List Nat)} {a b : List Nat} (h : a < b) : l ++ [a] < l ++ [b] := by
  induction l with
  | nil => exact List.cons_lt_cons_iff.mpr (.inl h)
  | cons x r ih =>
    rw [List.cons_append, List.cons_append, List.cons_lt_cons_iff]
    exact .inr ⟨rfl, ih⟩
theorem chs_sorted {ms : List Str} (hr : Rise ms) : ∀ n, (chs ms n).Pairwise fun x y => x.map (fun s => s.cps.toList) < y.map (fun s => s.cps.toList)
  | 0 => List.pairwise_singleton _ _
  | n + 1 => by
    rw [chs, List.pairwise_flatMap]
    refine ⟨fun c hc => ?_, ?_⟩
    · refine List.pairwise_map.mpr ((List.Pairwise.filter _ hr).imp fun {a b} h => ?_)
      rw [List.map_append, List.map_append]
      exact lex_append_same h
    · refine List.Pairwise.imp_of_mem ?_ (chs_sorted hr n)
      intro c c' hc hc' h x hx y hy
      obtain ⟨m, _, rfl⟩ := List.mem_map.mp hx
      obtain ⟨m', _, rfl⟩ := List.mem_map.mp hy
      rw [List.map_append, List.map_append]
      exact lex_append_lt (by rw [List.length_map, List.length_map, chs_len ms n c hc, chs_len ms n c' hc']) h
theorem belows_sorted {ms : List Str} (hr : Rise ms) : (belows ms).Pairwise lbLt := by
  unfold belows
  rw [List.pairwise_flatMap]
  refine ⟨fun n _ => ?_, ?_⟩
  · refine List.Pairwise.imp_of_mem ?_ (chs_sorted hr n)
    intro x y hx hy h
    exact .inr ⟨by rw [chs_len ms n x hx, chs_len ms n y hy], h⟩
  · refine List.Pairwise.imp ?_ List.pairwise_lt_range
    intro i j h x hx y hy
    exact .inl (by rw [chs_len ms i x hx, chs_len ms j y hy]; exact h)
theorem belows_nodup {ms : List Str} (hr : Rise ms) : (belows ms).Nodup := (belows_sorted hr).imp fun {a b} h e => by
  subst e
  exact lbLt_irr a h
theorem subs_perm {ms : List Str} (hr : Rise ms) : (subs ms).Perm (belows ms) :=
  (List.perm_ext_iff_of_nodup (subs_nodup hr) (belows_nodup hr)).mpr fun l => (mem_subs hr l).trans (mem_belows l).symm
end Abv
set_option Elab.async false
set_option linter.all false
set_option maxRecDepth 100000
set_option maxHeartbeats 4000000
/-! ## Keys of labels -/
namespace Abv
open PySem PySem.Spec PySem.W PyProof.Rows
def strsD (l : List Str) : PyData := .tuple (l.map PyData.str)
theorem eqv_str (a b : Str) : PyData.eqv (.str a) (.str b) = decide (a = b) := by
  simp only [PyData.eqv]
  exact Bool.beq_eq_decide_eq a b
theorem cps_ne {a b : Str} (h : a ≠ b) : a.cps.toList ≠ b.cps.toList := fun e => h (str_ext e)
theorem cmpb_strsA : ∀ x y : List Str, cmpbAll (x.map PyData.str) (y.map PyData.str) = true
  | [], y => by cases y <;> simp [cmpbAll]
  | a :: x, [] => by simp [cmpbAll]
  | a :: x, b :: y => by
    have ih := cmpb_strsA x y
    rw [List.map_cons, List.map_cons, cmpbAll]
    split
    · simp [alike, ih]
    · simp [cmpb]
theorem lt_strsA : ∀ x y : List Str, lexLt itemOrd (keyToksAll (x.map PyData.str)) (keyToksAll (y.map PyData.str)) = decide (x.map (fun s => s.cps.toList) < y.map (fun s => s.cps.toList))
  | [], [] => by
    simp [lex_irrefl]
  | [], b :: y => by
    rw [List.map_cons, toks_all_cons]
    simp only [List.map_nil, keyToksAll]
    rw [lex_diff (O := itemOrd) (by simp)]
    simp [itemLt]
  | a :: x, [] => by
    rw [List.map_cons, toks_all_cons]
    simp only [List.map_nil, keyToksAll]
    rw [lex_diff (O := itemOrd) (by simp)]
    simp [itemLt]
  | a :: x, b :: y => by
    rw [List.map_cons, List.map_cons, List.map_cons, List.map_cons]
    by_cases h : a = b
    · subst h
      rw [dataLt_all_yes (by simp [alike]) (by rw [eqv_str]; simp), lt_strsA x y]
      refine decide_eq_decide.mpr ?_
      rw [List.cons_lt_cons_iff]
      constructor
      · exact fun h => .inr ⟨rfl, h⟩
      · rintro (h | ⟨_, h⟩)
        · exact absurd h (List.lt_irrefl _)
        · exact h
    · rw [dataLt_all_no (by simp [alike]) (by rw [eqv_str]; simp [h]), dataLt_str]
      refine decide_eq_decide.mpr ?_
      rw [List.cons_lt_cons_iff]
      constructor
      · exact fun h => .inl h
      · rintro (h' | ⟨h', _⟩)
        · exact h'
        · exact absurd h' (cps_ne h)
theorem eqv_strsA : ∀ x y : List Str, PyData.eqvAll (x.map PyData.str) (y.map PyData.str) = decide (x = y)
  | [], [] => by simp [PyData.eqvAll]
  | [], b :: y => by simp [PyData.eqvAll]
  | a :: x, [] => by simp [PyData.eqvAll]
  | a :: x, b :: y => by
    rw [List.map_cons, List.map_cons, eqv_all_cons, eqv_str, eqv_strsA x y]
    simp
theorem eqv_strs_one (x y : List Str) : PyData.eqv (strsD x) (strsD y) = decide (x = y) := by
  unfold strsD
  rw [PyData.eqv, eqv_strsA]
theorem eqv_int (a b : Int) : PyData.eqv (.int a) (.int b) = decide (a = b) := by
  simp only [PyData.eqv]
  exact Bool.beq_eq_decide_eq a b
/-- len(l), l behind a -/
def lbK (l : List Str) : List PyData := [.int (l.length : Int), strsD l]
theorem lbK_cmp (x y : List Str) : cmpbAll (lbK x) (lbK y) = true := by
  unfold lbK
  rw [cmpbAll]
  split
  · rw [cmpbAll]
    split <;> simp [alike, strsD, cmpb, cmpb_strsA, cmpbAll]
    · have : ∀ x y : List Str, alikeAll (x.map PyData.str) (y.map PyData.str) = true := by
        intro x
        induction x with
        | nil => intro y; simp [alikeAll]
        | cons a x ih =>
          intro y
          cases y with
          | nil => simp [alikeAll]
          | cons b y => simp [alikeAll, alike, ih]
      exact this x y
  · simp [cmpb]
theorem map_cps_inj : ∀ {x y : List Str}, x.map (fun s => s.cps.toList) = y.map (fun s => s.cps.toList) → x = y
  | [], [], _ => rfl
  | [], _ :: _, h => by cases h
  | _ :: _, [], h => by cases h
  | a :: x, b :: y, h => by
    rw [List.map_cons, List.map_cons] at h
    injection h with h1 h2
    rw [str_ext h1, map_cps_inj h2]
instance (x y : List Str) : Decidable (lbLt x y) := by unfold lbLt; infer_instance
theorem lbK_lt (x y : List Str) : lexLt itemOrd (keyToksAll (lbK x)) (keyToksAll (lbK y)) = decide (lbLt x y) := by
  unfold lbK
  by_cases h : x.length = y.length
  · rw [dataLt_all_yes (by simp [alike]) (by rw [eqv_int]; simp [h])]
    by_cases e : x = y
    · subst e
      rw [lex_irrefl]
      exact (decide_eq_false (lbLt_irr x)).symm
    · have ha : alike (strsD x) (strsD y) = true := by
        have : ∀ x y : List Str, alikeAll (x.map PyData.str) (y.map PyData.str) = true := by
          intro x
          induction x with
          | nil => intro y; simp [alikeAll]
          | cons a x ih =>
            intro y
            cases y with
            | nil => simp [alikeAll]
            | cons b y => simp [alikeAll, alike, ih]
        simp [alike, strsD, this]
      rw [dataLt_all_no ha (by rw [eqv_strs_one]; simp [e])]
      unfold strsD
      rw [dataLt_tuple, lt_strsA]
      refine decide_eq_decide.mpr ?_
      unfold lbLt
      constructor
      · exact fun q => .inr ⟨h, q⟩
      · rintro (q | ⟨_, q⟩)
        · omega
        · exact q
  · rw [dataLt_all_no (by simp [alike]) (by rw [eqv_int]; simp; omega), dataLt_int]
    refine decide_eq_decide.mpr ?_
    unfold lbLt
    constructor
    · exact fun q => .inl (by omega)
    · rintro (q | ⟨q, _⟩)
      · omega
      · exact absurd q h
theorem lbLt_conn {x y : List Str} (h : ¬ lbLt x y) (h' : ¬ lbLt y x) : x = y := by
  unfold lbLt at h h'
  have hl : x.length = y.length := by
    rcases Nat.lt_trichotomy x.length y.length with q | q | q
    · exact absurd (.inl q) h
    · exact q
    · exact absurd (.inl q) h'
  refine map_cps_inj (List.le_antisymm ?_ ?_)
  · exact fun q => h' (.inr ⟨hl.symm, q⟩)
  · exact fun q => h (.inr ⟨hl, q⟩)
theorem lbLt_trans {x y z : List Str} (h : lbLt x y) (h' : lbLt y z) : lbLt x z := by
  rcases h with h | ⟨h1, h2⟩ <;> rcases h' with k | ⟨k1, k2⟩
  · exact .inl (by omega)
  · exact .inl (by omega)
  · exact .inl (by omega)
  · exact .inr ⟨by omega, List.lt_trans h2 k2⟩
/-- the law's labels, sorted, are the labels below -/
theorem subs_sorted {ms : List Str} (hr : Rise ms) {ls : List (List Str)} (hp : ls.Perm (subs ms)) (hw : ls.Pairwise fun x y => dataLt (.tuple (lbK y)) (.tuple (lbK x)) = false) : ls = belows ms := by
  refine perm_unique (r := fun x y => ¬ lbLt y x) (fun a b h h' => lbLt_conn h' h) (hp.trans (subs_perm hr)) (hw.imp fun {x y} h => ?_) ((belows_sorted hr).imp fun {x y} h h' => lbLt_irr _ (lbLt_trans h h'))
  rw [dataLt_tuple, lbK_lt, decide_eq_false_iff_not] at h
  exact h
end Abv
set_option Elab.async false
set_option linter.all false
set_option maxRecDepth 100000
set_option maxHeartbeats 4000000
/-! ## The law's list of labels -/
namespace Abv
open PySem PySem.Spec PyProof.Rows L2 NdefX LamX
/-- nothing but a table may have stood there -/
def NewE (H : Hp) (q : Addr) : Prop := ∀ o, H q = some o → ∃ ps, o = .tbl ps
theorem NewE.of {H : Hp} {q : Addr} (h : H q = none) : NewE H q := fun o e => by
  rw [h] at e
  cases e
section
variable {K : PySem.W.Frag} {C : Addr} {H : Hp} {β : Type}
theorem RpA.zip {f : β → Dt} : ∀ {ls : List β} {zs : List V}, RpA K C H (ls.map f) zs → ∀ x ∈ zs.zip ls, Rp K C H (f x.2) x.1
  | [], zs, h, x, hx => by
    rw [List.zip_nil_right] at hx
    cases hx
  | l :: ls, zs, h, x, hx => by
    rw [List.map_cons] at h
    unfold RpA at h
    obtain ⟨v, r, rfl, h1, h2⟩ := h
    rw [List.zip_cons_cons] at hx
    rcases List.mem_cons.mp hx with rfl | hx
    · exact h1
    · exact RpA.zip h2 x hx
theorem RpA.of_pairs {f : β → Dt} : ∀ {ws : List (V × β)}, (∀ x ∈ ws, Rp K C H (f x.2) x.1) → RpA K C H ((ws.map (·.2)).map f) (ws.map (·.1))
  | [], _ => RpA.nil
  | x :: ws, h => RpA.cons (h x (List.mem_cons_self ..)) (RpA.of_pairs fun y hy => h y (List.mem_cons_of_mem _ hy))
end
theorem toPyA_strs : ∀ l : List Str, toPyA (l.map Dt.str) = l.map PyData.str
  | [] => rfl
  | x :: l => by
    rw [List.map_cons, List.map_cons, toPyA, toPyA_strs l]
    rfl
theorem toPy_tS (l : List Str) : toPy (tS l) = strsD l := by
  show PyData.tuple (toPyA (l.map Dt.str)) = _
  rw [toPyA_strs]
  rfl
theorem strs_lay {l : List Str} (h : ∀ m ∈ l, NameOk m) : (strsD l).canLay0 = true := by
  have := SeqAt.canLay_of_shaped (shaped_tS h)
  rw [toPy_tS] at this
  exact this
theorem lbK_lay {l : List Str} (h : ∀ m ∈ l, NameOk m) : (PyData.tuple (lbK l)).canLay0 = true := by
  have := strs_lay h
  simp [lbK, PyData.canLay0, PyData.canLayAll0, this]
theorem strsD_depth (l : List Str) : (strsD l).depth = 1 := by
  unfold strsD
  rw [PyData.depth]
  have : ∀ l : List Str, PyData.depthAll (l.map PyData.str) = 0 := by
    intro l
    induction l with
    | nil => simp [PyData.depthAll]
    | cons a l ih => simp [PyData.depthAll, PyData.depth, ih]
  rw [this]
theorem lbK_depth (l : List Str) : (PyData.tuple (lbK l)).depth = 2 := by
  unfold lbK
  rw [PyData.depth]
  simp [PyData.depthAll, PyData.depth, strsD_depth]
theorem rise_take {ms : List Str} (h : Rise ms) (i : Nat) : Rise (ms.take i) := List.Pairwise.sublist (List.take_sublist i ms) h
theorem ExtN.seqT {K : PySem.W.Frag} {H H' : Hp} {a : Addr} {xs : List V} (e : ExtN H H') (h : SqT K H a xs) : SqT K H' a xs := by
  rcases h with (h | ⟨o, h⟩) | h
  · exact .inl (.inl (e _ _ h fun _ z => by cases z))
  · exact .inl (.inr ⟨o, e _ _ h fun _ z => by cases z⟩)
  · exact .inr h
theorem ExtN.seqL {K : PySem.W.Frag} {H H' : Hp} {a : Addr} {xs : List V} (e : ExtN H H') (h : SqL K H a xs) : SqL K H' a xs := by
  rcases h with (h | ⟨o, h⟩) | h
  · exact .inl (.inl (e _ _ h fun _ z => by cases z))
  · exact .inl (.inr ⟨o, e _ _ h fun _ z => by cases z⟩)
  · exact .inr h
theorem ExtN.kt {H H' : Hp} (e : ExtN H H') : Kt H H' := fun b o h s => e b o h fun ps z => by
  rw [z] at s
  exact s
theorem RpA.extN {K : PySem.W.Frag} {C : Addr} {H H' : Hp} (e : ExtN H H') (ds : List Dt) (vs : List V) (n : noLA ds = true) (h : RpA K C H ds vs) : RpA K C H' ds vs := RpA.kt (Abv.ExtN.kt e) ds vs n h
/-- a def that makes a lambda: its code object, the table there -/
structure LmF (K : PySem.W.Frag) (mg : Str → Option Value) (base : Heap) (x : Str) (st : Stmt) (c P : Addr) : Prop where
  m : mg x = some (.ref (He.ga K x))
  fd : ∃ fd, FunD K x x (defArgs st) (defBody st) (defScope st) [] [] (He.ga K x) fd ∧ fd.code = .ref c
  tb : TabB base mg c P
/-- the name of a lambda in the def x -/
def lamQ (x : Str) : Str := x ++ ".<locals>." ++ "<lambda>"
theorem hu_in {A : Around} {k : Nat} (hr : Room (k + 2) A) : A.in1.in1.units < cLine := by
  have := (show Room k A.in1.in1 from hr.in1.in1).units
  omega
theorem nofree {l : List (Str × NameKind)} {C : Str × NameKind → Prop} (h : l.all (fun y => !decide (y.2 = .free)) = true) : ∀ y ∈ l, y.2 = .free → C y := fun y hy e => by
  have := List.all_eq_true.mp h y hy
  rw [decide_eq_true e] at this
  cases this
/-- the two tables -/
structure Tbs (K : PySem.W.Frag) (mg : Str → Option Value) (base : Heap) (T : List (Addr × Str)) : Prop where
  ex : ∃ c1 P1 c2 P2, T = [(P1, lamQ "_law_labels"), (P2, lamQ "_law_entries")] ∧ P1 ≠ P2 ∧ LmF K mg base "_law_labels" (top 48) c1 P1 ∧ LmF K mg base "_law_entries" (top 56) c2 P2
section
variable {P : Program} {w : World} {K : PySem.W.Frag} {mg : Str → Option Value} {base : Heap}
theorem clL {x : Str} {st : Stmt} {N ps : List Str} {k : Nat} {sp : Sp} {c Pt : Addr} (F : LmF K mg base x st c Pt) (S : FnScope N ps (defScope st))
    (hbind : ∀ (kV doc pm : Value) (an : Option Addr) (cdv ct : Value) (us : List Value), us.length = ps.length → bindArgs (PySem.W.fnOf x x (defArgs st) (defBody st) (defScope st) .none kV doc pm an cdv ct) ⟨us, []⟩ = pure (ps.zip us))
    (len : ∀ vs H Q E, sp vs H Q E → vs.length = ps.length)
    (hbody : ∀ (f : Addr) (A : Around) (outer : List Env) (s : Shared) (H : Hp) (vs : List V) (Q : VK) (E : XK), Room k (A.deeper (envOfC x (defScope st) s.heap.objs.size f (.ref c))) → sp vs H Q E →
      ∃ t, PSs (cxOf CX0 P w K mg base N x (defScope st) f (.ref c) A outer s H E).nox (defBody st) t ∧ t { nx := fun _ H' => Q .non H', rt := Q } (start N vs) H) :
    Cl CX0 P w K mg base (k + 1) x sp := by
  obtain ⟨fd, D, hc⟩ := F.fd
  refine ⟨He.ga K x, ?_, F.m, D.kp⟩
  have G : FnOk P w K mg base CX0 (k + 1) (He.ga K x) fd ps sp := by
    obtain ⟨oc, od, dV, kV, doc, pm, an, cdv, ct, osl, rfl, lk, hcd, _, _⟩ := D.ex
    obtain rfl : cdv = .ref c := hc
    refine fn_of lk hcd S len fun A outer s H vs Q E hr h => ?_
    obtain ⟨t, h1, h2⟩ := hbody _ A outer s H vs Q E hr h
    exact ⟨t, h1.nox, h2⟩
  have R := FnOk.raw G (D.bindsN hbind) .nil
  exact R.imp fun vs H Q E q => by rw [List.append_nil]; exact q
def spLabels (K : PySem.W.Frag) (T : List (Addr × Str)) : Sp := fun vs H Q _ => ∃ (p : Addr) (ms : List Str), vs = [.ref p] ∧ SqL K H p (ms.map V.str) ∧ LblOk ms ∧ ms.length ≤ 3 ∧ Tabs T H ∧
  ∀ q us H', ExtN H H' → Tabs T H' → NewE H q → H' q = some (.lst us) → RpA K (CL K) H' ((belows ms).map tS) us → Q (.ref q) H'
abbrev s__law_labels : Stmt := top 48
abbrev n__law_labels : List Str := ["_law_marks_here", "_law_found", "_law_mark", "_law_one"]
theorem sc__law_labels : FnScope n__law_labels ["_law_marks_here"] (defScope s__law_labels) := ⟨rfl, rfl, rfl, by decide +kernel, rfl, by decide +kernel, by decide +kernel⟩
theorem ok_labels (T : Tx K mg) {Tb : List (Addr × Str)} (L : Tbs K mg base Tb) : Cl CX0 P w K mg base 5 "_law_labels" (spLabels K Tb) := by
  obtain ⟨c1, P1, c2, P2, eT, nP, L1, L2'⟩ := L.ex
  refine clL L1 sc__law_labels (fun _ _ _ _ _ _ us hl => match us, hl with | [_], _ => rfl) (fun vs H Q E h => ?_) (fun f A outer s H vs Q E hr h => ?_)
  · obtain ⟨p, ms, rfl, _⟩ := h
    rfl
  obtain ⟨p, ms, rfl, hp, hm, h3, hT, k⟩ := h
  refine ⟨_, (pss_cons (ps_set (i := 1) sc__law_labels.nd rfl (Or.inl rfl) (pe_lst (pa_cons (pe_tup pa_nil) pa_nil)))
      (pss_cons (ps_for PassesOwn.never rfl (pi_listK (K := K) (pv 0)) (pg_name (i := 2) sc__law_labels.nd rfl (Or.inr rfl))
        (pss_one (ps_set (i := 1) sc__law_labels.nd rfl (Or.inl rfl) (pe_op op_cat (pv 1) (pe_lc (own := [("_law_one", 3)]) rfl sc__law_labels.nd (pi_listK (K := K) (pv 1)) (blkOk_by (own := [("_law_one", 3)]) (N := n__law_labels) (sc := defScope s__law_labels) (by decide +kernel)) (fun _ _ _ _ _ => (pg_name (i := 3) sc__law_labels.nd rfl (Or.inl rfl))) (fun _ _ _ _ _ => pts_nil) (fun _ _ _ _ _ => (pe_op (catT (K := K)) (pv 3) (pe_tup (pa_cons (pv 2) pa_nil)))))))))
      (pss_one (ps_ret (pe_sortLam (K := K) (k0 := 1) (N := ["_law_one"]) (pn := "_law_one") (T := Tb) rfl T.b_sorted (pa_cons (pe_lc (own := [("_law_one", 3)]) rfl sc__law_labels.nd (pi_listK (K := K) (pv 1)) (blkOk_by (own := [("_law_one", 3)]) (N := n__law_labels) (sc := defScope s__law_labels) (by decide +kernel)) (fun _ _ _ _ _ => (pg_name (i := 3) sc__law_labels.nd rfl (Or.inl rfl))) (fun _ _ _ _ _ => pts_nil) (fun _ _ _ _ _ => (pe_callTy (T := "tuple") (tupOf (K := K)) (by rfl) T.b_tuple (by decide +kernel) (pa_cons (pe_callB (id := "sorted") (cr_srtT (K := K) (hu_in hr)) (by rfl) T.b_sorted (by decide +kernel) (pa_cons (pv 3) pa_nil)) pa_nil)))) pa_nil) L1.tb rfl (by rw [eT]; exact List.mem_cons_self ..) (by rw [eT]; intro p hp e; rcases List.mem_cons.mp hp with rfl | hp; exact rfl; rw [List.mem_singleton.mp hp] at e; exact absurd e (Ne.symm nP)) hr (nscope_by (by decide +kernel)) rfl rfl (nofree (by decide +kernel)) (fun _ _ _ _ _ => rfl) (fun _ _ _ _ _ _ hr' => pe_tup (pa_cons (pe_callB (id := "len") (lenK (K := K)) (by rfl) T.b_len (by decide +kernel) (pa_cons (pv 0) pa_nil)) (pa_cons (pv 0) pa_nil)))))))), ?_⟩
  refine ⟨szl (Nat.zero_le _), fun t nt => ⟨szl (Nat.le_of_ble_eq_true rfl), fun D nD => ?_⟩⟩
  have e0 : Same H (upd (upd H t (.tup [])) D (.lst [.ref t])) := (Same.new nt).trans (Same.new nD)
  have hD0 : upd (upd H t (.tup [])) D (.lst [.ref t]) D = some (.lst [.ref t]) := upd_same
  have hr0 : RpA K (CL K) (upd (upd H t (.tup [])) D (.lst [.ref t])) ((subs []).map tS) [.ref t] := RpA.one (Rp.tS_of (.inl (.inl (Same.new nD _ _ upd_same))))
  show (fun H3 => _) (upd (upd H t (.tup [])) D (.lst [.ref t]))
  generalize upd (upd H t (.tup [])) D (.lst [.ref t]) = H0 at e0 hD0 hr0
  have hrise := hm.rise
  refine ⟨_, rfl, p, rfl, ⟨_, e0.seq hp⟩, forJ (ms.map V.str).length (fun i σ H1 => Same H H1 ∧ ∃ D us y z, σ = [some (.ref p), some (.ref D), y, z] ∧ H1 D = some (.lst us) ∧ RpA K (CL K) H1 ((subs (ms.take i)).map tS) us) ?_ ?_ ?_ ?_ ?_⟩
  · exact ⟨e0, D, _, none, none, rfl, hD0, hr0⟩
  · exact fun i σ H1 hi h => ⟨_, _, h.1.seq hp, List.getElem?_eq_getElem hi⟩
  · exact fun σ H1 h => ⟨_, h.1.seq hp, Nat.le_refl _⟩
  · rintro i x σ H1 H2 hi ⟨e1, D1, us, y, z, rfl, hD1, hr1⟩ ⟨rfl, hx⟩
    have hx := hx _ (e1.seq hp)
    rw [List.getElem?_map, Option.map_eq_some_iff] at hx
    obtain ⟨m, hmi, rfl⟩ := hx
    have hi' : i < ms.length := (List.getElem?_eq_some_iff.mp hmi).1
    have hlen := hr1.len
    rw [List.length_map, subs_len, List.length_take, Nat.min_eq_left (by omega)] at hlen
    have h8 : us.length ≤ 8 := by
      rw [hlen]
      exact Nat.le_trans (Nat.pow_le_pow_right (by omega) (by omega : i ≤ 3)) (by decide)
    refine ⟨_, rfl, _, rfl, D1, rfl, ⟨_, SqL.of hD1⟩, fun D2 nD2 => ?_⟩
    refine lcL (K := K) (C := CL K) (fun j => ((subs (ms.take i))[j]?).bind fun l => some (tS (l ++ [m]))) (fmSame _) nD2 (by omega) (fun Hc h => SqL.of (h _ _ hD1)) (fun j d _ e => ?_) (fun j x Hc R S hx hM _ hS => ⟨rfl, yes_go ?_⟩) (fun Hc zs hM hD2 hz => ?_) (fun Hc _ => Same.refl Hc)
    · cases h : (subs (ms.take i))[j]? with
      | none =>
        rw [h] at e
        cases e
      | some l =>
        rw [h] at e
        cases e
        exact noL_tS _
    · obtain ⟨d, h1, h2⟩ := hr1.get hx
      rw [List.getElem?_map, Option.map_eq_some_iff] at h1
      obtain ⟨l, hl, rfl⟩ := h1
      obtain ⟨a', rfl, ha⟩ := Rp.tS_at h2
      have hll : l.length ≤ 3 := by
        have h2 := (mem_subs (rise_take hrise i) l).mp (List.mem_of_getElem? hl)
        have h3' := (rise_nodup h2.1).length_le_of_subset h2.2
        rw [List.length_take] at h3'
        omega
      refine ⟨_, rfl, _, rfl, szl (Nat.le_of_ble_eq_true rfl), fun q2 nq2 => ?_⟩
      have e7 := Same.new (u := .tup [.str m]) nq2
      have h7 : SqT K (upd Hc q2 (.tup [.str m])) q2 [.str m] := .inl (.inl upd_same)
      have fin : ∀ y H7, Rp K (CL K) H7 (tS (l ++ [m])) y → Same Hc H7 → S y H7 := fun y H7 hy h7 => hS _ _ (tS (l ++ [m])) h7 (by rw [hl]; rfl) hy
      refine ⟨a', q2, _, _, rfl, rfl, Same.seqT (hM.trans e7) ha, h7, ?_, fun hx => ?_, fun _ hy => absurd hy (by simp), fun hx _ q3 nq3 => ?_⟩
      · rw [List.length_map, sizeLine_eq]
        show l.length + 1 ≤ _
        omega
      · have hx : l = [] := List.map_eq_nil_iff.mp hx
        subst hx
        exact fin _ _ (Rp.tS_of h7) e7
      · refine fin _ _ (Rp.tS_of ?_) (e7.trans (Same.new nq3))
        rw [List.map_append]
        exact .inl (.inl upd_same)
    · have e : (List.range us.length).filterMap (fun j => ((subs (ms.take i))[j]?).bind fun l => some (tS (l ++ [m]))) = ((subs (ms.take i)).map (· ++ [m])).map tS := by
        have hl2 : us.length = (subs (ms.take i)).length := by
          have := hr1.len
          rw [List.length_map] at this
          exact this
        rw [hl2, fm_list, fm_map, List.map_map]
        rfl
      rw [e] at hz
      have hzl := hz.len
      rw [List.length_map, List.length_map] at hzl
      have hl2 : (subs (ms.take i)).length = us.length := by
        have := hr1.len
        rw [List.length_map] at this
        exact this.symm
      refine ⟨D1, D2, us, zs, rfl, rfl, hM _ _ hD1, hD2, by rw [hzl, hl2, sizeLine_eq]; omega, fun p3 np3 => ?_⟩
      have e3 := Same.new (u := .lst (us ++ zs)) np3
      refine ⟨(e1.trans hM).trans e3, p3, us ++ zs, _, _, rfl, upd_same, ?_⟩
      rw [List.take_add_one, hmi]
      show RpA K (CL K) _ ((subs (ms.take i ++ [m])).map tS) _
      rw [subs_snoc, List.map_append]
      exact RpA.append (RpA.same (hM.trans e3) _ _ hr1) (RpA.same e3 _ _ hz)
  · rintro σ H1 ⟨e1, D1, us, y, z, rfl, hD1, hr1⟩
    rw [List.length_map, List.take_length] at hr1
    have hlen := hr1.len
    rw [List.length_map] at hlen
    have h8 : us.length ≤ 8 := by
      rw [hlen, subs_len]
      exact Nat.le_trans (Nat.pow_le_pow_right (by omega) h3) (by decide)
    refine ⟨_, rfl, D1, rfl, ⟨_, SqL.of hD1⟩, fun D2 nD2 => ?_⟩
    refine lcL (K := K) (C := CL K) (fun j => ((subs ms)[j]?).bind fun l => some (tS l)) (fmSame _) nD2 (by omega) (fun Hc h => SqL.of (h _ _ hD1)) (fun j d _ e => ?_) (fun j x Hc R S hx hM _ hS => ⟨rfl, yes_go ?_⟩) (fun Hc zs hM hD2 hz => ?_) (fun Hc _ => Same.refl Hc)
    · cases h : (subs ms)[j]? with
      | none =>
        rw [h] at e
        cases e
      | some l =>
        rw [h] at e
        cases e
        exact noL_tS _
    · obtain ⟨d, h1, h2⟩ := hr1.get hx
      rw [List.getElem?_map, Option.map_eq_some_iff] at h1
      obtain ⟨l, hl, rfl⟩ := h1
      obtain ⟨a', rfl, ha⟩ := Rp.tS_at h2
      have h2 := (mem_subs hrise l).mp (List.mem_of_getElem? hl)
      have h3' := (rise_nodup h2.1).length_le_of_subset h2.2
      refine ⟨_, rfl, a', l, rfl, Same.seqT hM ha, by omega, fun ys q hp hw nq => ?_⟩
      have : ys = l := perm_unique (fun a b => sle_antisymm) hp hw h2.1.sle
      subst this
      refine ⟨q, _, rfl, .inl ⟨SqL.of upd_same, fun q2 nq2 => ?_⟩⟩
      exact hS _ _ (tS ys) ((Same.new nq).trans (Same.new nq2)) (by rw [hl]; rfl) (Rp.tS_of (.inl (.inl upd_same)))
    · have e : (List.range us.length).filterMap (fun j => ((subs ms)[j]?).bind fun l => some (tS l)) = (subs ms).map tS := by
        rw [hlen, fm_list, fm_map]
      rw [e] at hz
      have hzl := hz.len
      rw [List.length_map] at hzl
      have eS := e1.trans hM
      refine ⟨hT.ext eS, fun H2 eN T2 => ?_⟩
      have hz2 : RpA K (CL K) H2 ((subs ms).map tS) zs := RpA.extN eN _ _ (noLA_of fun d hd => by obtain ⟨l, _, rfl⟩ := List.mem_map.mp hd; exact noL_tS l) hz
      have hmap1 : (zs.zip (subs ms)).map (·.1) = zs := List.map_fst_zip (by omega)
      have hmap2 : (zs.zip (subs ms)).map (·.2) = subs ms := List.map_snd_zip (by omega)
      have hat := fun x (hx : x ∈ zs.zip (subs ms)) => RpA.zip (f := tS) hz2 x hx
      have hms : ∀ x ∈ zs.zip (subs ms), ∀ m ∈ x.2, NameOk m := fun x hx m hm' => hm.nm m (((mem_subs hrise x.2).mp (List.of_mem_zip hx).2).2 m hm')
      refine ⟨.ref D2, List Str, zs.zip (subs ms), fun l => .tuple (lbK l), rfl, ⟨⟨D2, rfl, by rw [hmap1]; exact SqL.of (eN _ _ hD2 fun _ z => by cases z)⟩, ⟨.type "int", ⟨fun d hd d' hd' => ?_, fun d hd => ?_, fun d hd => ?_⟩, by decide⟩, fun x hx => ?_⟩, fun x hx H3 e3 => ?_, fun ys q H3 e3 nq hq hp hw => ?_⟩
      · obtain ⟨x, _, rfl⟩ := List.mem_map.mp hd
        obtain ⟨y, _, rfl⟩ := List.mem_map.mp hd'
        show cmpb (.tuple (lbK x.2)) (.tuple (lbK y.2)) = true
        rw [cmpb]
        exact lbK_cmp _ _
      · obtain ⟨x, hx, rfl⟩ := List.mem_map.mp hd
        exact lbK_lay (hms x hx)
      · obtain ⟨x, _, rfl⟩ := List.mem_map.mp hd
        exact ⟨_, _, rfl, rfl⟩
      · show (PyData.tuple (lbK x.2)).depth ≤ 10
        rw [lbK_depth]
        decide
      · obtain ⟨a', ex, ha⟩ := Rp.tS_at (hat x hx)
        have ha3 := Same.seqT e3 ha
        rw [ex]
        have hl3 : x.2.length ≤ 3 := by
          have h2 := (mem_subs hrise x.2).mp (List.of_mem_zip hx).2
          have h3' := (rise_nodup h2.1).length_le_of_subset h2.2
          omega
        refine ⟨_, rfl, _, x.2.length, rfl, .inr ⟨_, ha3, by rw [List.length_map]⟩, _, rfl, szl (Nat.le_of_ble_eq_true rfl), fun q nq => ⟨Same.new nq, .tup (.inl (.inl upd_same)) (.cons (.int _) (.cons ?_ .nil))⟩⟩
        have := Rp.dp (tS x.2) _ (noBA_strs x.2) (Rp.tS_of (C := CL K) (Same.seqT (Same.new (u := .tup [.int (x.2.length : Int), .ref a']) nq) ha3))
        rw [toPy_tS] at this
        exact this
      · have hls := subs_sorted hrise (ls := ys.map (·.2)) (by rw [← hmap2]; exact hp.map _) (List.pairwise_map.mpr hw)
        refine k q (ys.map (·.1)) H3 (LamX.ExtN.trans (LamX.ExtN.of eS) (LamX.ExtN.trans eN (LamX.ExtN.of e3))) (T2.ext e3) (fun o ho => ?_) hq ?_
        · cases o with
          | tbl ps => exact ⟨ps, rfl⟩
          | _ =>
            have := eN _ _ (eS _ _ ho) (fun _ z => by cases z)
            rw [nq] at this
            cases this
        · rw [← hls]
          exact RpA.of_pairs fun x hx => Rp.same e3 _ _ (hat x (hp.mem_iff.mp hx))
end
end Abv
set_option Elab.async false
set_option linter.all false
set_option maxRecDepth 100000
set_option maxHeartbeats 4000000
/-! ## below, sort, rank -/
namespace Abv
open PySem PySem.Spec PyProof.Rows L2
section
variable {P : Program} {w : World} {K : PySem.W.Frag} {mg : Str → Option Value} {base : Heap}
/-- is l below h -/
def isBel (l h : List Str) : Bool := l.all fun m => decide (m ∈ h)
def spBel (K : PySem.W.Frag) : Sp := fun vs H Q _ => ∃ vl vh l h, vs = [vl, vh] ∧ Rp K (CL K) H (tS l) vl ∧ Rp K (CL K) H (tS h) vh ∧ l.length ≤ 1000 ∧ ∀ H', Same H H' → Q (.bl (isBel l h)) H'
abbrev s__law_below : Stmt := top 49
abbrev n__law_below : List Str := ["_law_low", "_law_high", "_law_mark"]
theorem sc__law_below : FnScope n__law_below ["_law_low", "_law_high"] (defScope s__law_below) := ⟨rfl, rfl, rfl, by decide +kernel, rfl, by decide +kernel, by decide +kernel⟩
theorem ok_bel (T : Tx K mg) : Cl CX0 P w K mg base 1 "_law_below" (spBel K) := by
  refine cl0 T.f__law_below sc__law_below (fun _ _ _ _ _ _ us hl => match us, hl with | [_, _], _ => rfl) (fun vs H Q E h => ?_) (fun f cdv A outer s H vs Q E hr h => ?_)
  · obtain ⟨vl, vh, l, h, rfl, _⟩ := h
    rfl
  obtain ⟨vl, vh, l, hh, rfl, hl, hhh, hz, k⟩ := h
  obtain ⟨al, rfl, hal⟩ := Rp.tS_at hl
  obtain ⟨ah, rfl, hah⟩ := Rp.tS_at hhh
  refine ⟨_, (pss_one (ps_ret (pe_callB (id := "all") (allK (K := K)) (by rfl) T.b_all (by decide +kernel) (pa_cons (pe_lc (own := [("_law_mark", 2)]) rfl sc__law_below.nd (pi_tupK (K := K) (pv 0)) (blkOk_by (own := [("_law_mark", 2)]) (N := n__law_below) (sc := defScope s__law_below) (by decide +kernel)) (fun _ _ _ _ _ => (pg_name (i := 2) sc__law_below.nd rfl (Or.inl rfl))) (fun _ _ _ _ _ => pts_nil) (fun _ _ _ _ _ => (pe_cmpR (inQ (K := K)) (pv 2) (pv 1) (by rfl)))) pa_nil)))), ?_⟩
  refine ⟨_, rfl, al, rfl, ⟨_, hal⟩, fun D nD => ?_⟩
  refine lcT (K := K) (C := CL K) (fun i => (l[i]?).bind fun m => some (.bl (decide (m ∈ hh)))) (fmSame _) nD (by rw [List.length_map]; omega) (fun Hc h => Same.seqT h hal) (fun i d _ e => ?_) (fun i x Hc R S hx hM _ hS => ⟨rfl, yes_go ?_⟩) (fun Hc ys hM hD hy => ?_) (fun Hc _ => Same.refl Hc)
  · cases h : l[i]? with
    | none =>
      rw [h] at e
      cases e
    | some m =>
      rw [h] at e
      cases e
      rfl
  · rw [List.getElem?_map, Option.map_eq_some_iff] at hx
    obtain ⟨m, hm, rfl⟩ := hx
    refine ⟨_, rfl, _, rfl, ah, _, rfl, .inr (Same.seqT hM hah), rfl, all_flat_strs _, ?_⟩
    rw [inV_strs]
    exact hS _ _ (.bl (decide (m ∈ hh))) (Same.refl _) (by rw [hm]; rfl) rfl
  · have e : (List.range (l.map V.str).length).filterMap (fun i => (l[i]?).bind fun m => some (Dt.bl (decide (m ∈ hh)))) = (l.map fun m => decide (m ∈ hh)).map Dt.bl := by
      rw [List.length_map, fm_list, fm_map, List.map_map]
      rfl
    rw [e] at hy
    have hy := hy.bls
    subst hy
    refine ⟨D, _, rfl, SqL.of hD, ?_⟩
    have e2 : (l.map fun m => decide (m ∈ hh)).all id = isBel l hh := by
      unfold isBel
      rw [List.all_map]
      rfl
    rw [e2]
    exact k _ hM
/-! ### sort, rank -/
def srtN : V → Str
  | .bl _ => "truth"
  | .int _ => "int"
  | _ => "text"
def rkN : V → Int
  | .bl _ => 1
  | .int _ => 2
  | _ => 3
def spSrt (K : PySem.W.Frag) : Sp := fun vs H Q _ => ∃ v, vs = [v] ∧ okV v = true ∧ ∀ H', Same H H' → Q (.str (srtN v)) H'
abbrev s__law_sort : Stmt := top 52
abbrev n__law_sort : List Str := ["_law_value"]
theorem sc__law_sort : FnScope n__law_sort ["_law_value"] (defScope s__law_sort) := ⟨rfl, rfl, rfl, by decide +kernel, rfl, by decide +kernel, by decide +kernel⟩
theorem ok_srt (T : Tx K mg) : Cl CX0 P w K mg base 1 "_law_sort" (spSrt K) := by
  refine cl0 T.f__law_sort sc__law_sort (fun _ _ _ _ _ _ us hl => match us, hl with | [_], _ => rfl) (fun vs H Q E h => ?_) (fun f cdv A outer s H vs Q E hr h => ?_)
  · obtain ⟨v, rfl, _⟩ := h
    rfl
  obtain ⟨v, rfl, ov, k⟩ := h
  refine ⟨_, (pss_cons (ps_if (pt_cmp (pc_isN (pv 0))) (pss_one (ps_ret pe_str)) pss_nil)
      (pss_cons (ps_if (pt_val (pe_callB (id := "isinstance") (isiK (K := K)) (by rfl) T.b_isinstance (by decide +kernel) (pa_cons (pv 0) (pa_cons (pe_bltn (v := .ty "bool") rfl T.b_bool (by decide +kernel) rfl) pa_nil)))) (pss_one (ps_ret pe_str)) pss_nil)
      (pss_one (ps_ret (pe_ifExp (pt_val (pe_callB (id := "isinstance") (isiK (K := K)) (by rfl) T.b_isinstance (by decide +kernel) (pa_cons (pv 0) (pa_cons (pe_bltn (v := .ty "int") rfl T.b_int (by decide +kernel) rfl) pa_nil)))) pe_str pe_str))))), ?_⟩
  have hv := okV_rp (K := K) (C := CL K) (H := H) ov
  have hp : pln (dOf v) = true := (Bool.and_eq_true_iff.mp ov).2
  refine ⟨_, rfl, _, rfl, ?_⟩
  have hn : decide (v = .non) = false := by
    rcases okV_cases ov with ⟨b, rfl⟩ | ⟨i, rfl⟩ | ⟨s, rfl⟩ <;> rfl
  rw [hn]
  refine iteF ?_
  refine ⟨_, rfl, _, _, _, _, _, rfl, .ty _, tyD hv hp, kitBo hp, _, rfl, ?_⟩
  rcases okV_cases ov with ⟨b, rfl⟩ | ⟨i, rfl⟩ | ⟨s, rfl⟩
  · exact iteT (k _ (Same.refl H))
  · exact iteF ⟨_, rfl, _, _, _, _, _, rfl, .ty _, tyD hv hp, kitI hp, _, rfl, iteT (k _ (Same.refl H))⟩
  · exact iteF ⟨_, rfl, _, _, _, _, _, rfl, .ty _, tyD hv hp, kitI hp, _, rfl, iteF (k _ (Same.refl H))⟩
def spRk (K : PySem.W.Frag) : Sp := fun vs H Q _ => ∃ v, vs = [v] ∧ okV v = true ∧ ∀ H' p, Same H H' → H p = none → H' p = some (.tup [.int (rkN v), v]) → Q (.ref p) H'
abbrev s__law_rank : Stmt := top 53
abbrev n__law_rank : List Str := ["_law_value"]
theorem sc__law_rank : FnScope n__law_rank ["_law_value"] (defScope s__law_rank) := ⟨rfl, rfl, rfl, by decide +kernel, rfl, by decide +kernel, by decide +kernel⟩
theorem ok_rk (T : Tx K mg) : Cl CX0 P w K mg base 2 "_law_rank" (spRk K) := by
  have C__law_sort : Cl CX0 P w K mg base 1 "_law_sort" (spSrt K) := ok_srt T
  refine cl0 T.f__law_rank sc__law_rank (fun _ _ _ _ _ _ us hl => match us, hl with | [_], _ => rfl) (fun vs H Q E h => ?_) (fun f cdv A outer s H vs Q E hr h => ?_)
  · obtain ⟨v, rfl, _⟩ := h
    rfl
  obtain ⟨v, rfl, ov, k⟩ := h
  refine ⟨_, (pss_one (ps_ret (pe_tup (pa_cons (pe_bmK (K := K) PySem.F.plainAttrs_list PySem.F.slot_list_index PySem.F.type_list_index (mt_indexK (K := K)) (pe_lst (pa_cons pe_str (pa_cons pe_str (pa_cons pe_str (pa_cons pe_str pa_nil))))) (pa_cons (pe_cl C__law_sort hr (by decide) pass0 rfl (pa_cons (pv 0) pa_nil)) pa_nil)) (pa_cons (pe_ifExp (pt_cmp (pc_isN (pv 0))) pe_int (pv 0)) pa_nil))))), ?_⟩
  refine ⟨szl (Nat.le_of_ble_eq_true rfl), fun p hp => ⟨Or.inl ⟨rfl, _, SqL.of upd_same⟩, _, rfl, v, rfl, ov, fun H1 e1 => ?_⟩⟩
  have hp1 := e1 _ _ (upd_same (H := H) (a := p))
  have e0 := (Same.new hp).trans e1
  have hj : ∃ j : Nat, ([V.str "empty", V.str "truth", V.str "int", V.str "text"])[j]? = some (.str (srtN v)) ∧ (∀ (m : Nat) (z' : V), m < j → ([V.str "empty", V.str "truth", V.str "int", V.str "text"])[m]? = some z' → eqV z' (.str (srtN v)) = false) ∧ (j : Int) = rkN v := by
    rcases okV_cases ov with ⟨b, rfl⟩ | ⟨i, rfl⟩ | ⟨s, rfl⟩
    · refine ⟨1, rfl, fun m z hm e => ?_, rfl⟩
      obtain rfl : m = 0 := by omega
      cases e
      exact (show eqV (.str (Str.ofString "empty")) (.str (Str.ofString "truth")) = false by decide +kernel)
    · refine ⟨2, rfl, fun m z hm e => ?_, rfl⟩
      obtain rfl | rfl : m = 0 ∨ m = 1 := by omega
      · cases e
        exact (show eqV (.str (Str.ofString "empty")) (.str (Str.ofString "int")) = false by decide +kernel)
      · cases e
        exact (show eqV (.str (Str.ofString "truth")) (.str (Str.ofString "int")) = false by decide +kernel)
    · refine ⟨3, rfl, fun m z hm e => ?_, rfl⟩
      obtain rfl | rfl | rfl : m = 0 ∨ m = 1 ∨ m = 2 := by omega
      · cases e
        exact (show eqV (.str (Str.ofString "empty")) (.str (Str.ofString "text")) = false by decide +kernel)
      · cases e
        exact (show eqV (.str (Str.ofString "truth")) (.str (Str.ofString "text")) = false by decide +kernel)
      · cases e
        exact (show eqV (.str (Str.ofString "int")) (.str (Str.ofString "text")) = false by decide +kernel)
  obtain ⟨j, j1, j2, j3⟩ := hj
  have hn : decide (v = .non) = false := by
    rcases okV_cases ov with ⟨b, rfl⟩ | ⟨i, rfl⟩ | ⟨s, rfl⟩ <;> rfl
  refine ⟨p, _, .str (srtN v), j, _, rfl, rfl, SqL.of hp1, rfl, rfl, j1, by show (srtN v == srtN v) = true; exact beq_self_eq_true _, j2, ?_⟩
  refine ⟨_, rfl, _, rfl, ?_⟩
  rw [hn]
  refine iteF ⟨_, rfl, szl (Nat.le_of_ble_eq_true rfl), fun q hq => ?_⟩
  rw [j3]
  exact k _ q (e0.trans (Same.new hq)) (e0.free hq) upd_same
end
end Abv
set_option Elab.async false
set_option linter.all false
set_option maxRecDepth 100000
set_option maxHeartbeats 4000000
/-! ## The law's list of entries: entries below -/
namespace Abv
open PySem PySem.Spec PyProof.Rows L2 NdefX LamX
/-- repr of a value -/
def rprV : V → Str
  | .bl b => if b then "True" else "False"
  | .int i => toString i
  | .str s => reprText s
  | _ => "None"
/-- the values that are asked for -/
def menuU : List V := menuV ++ [.int 7, .str "zz"]
theorem menuU_ok : ∀ v ∈ menuU, okV v = true := by decide +kernel
theorem menuU_sz : ∀ v ∈ menuU, (rprV v).length ≤ 100 := by decide +kernel
theorem menuU_int : ∀ v ∈ menuU, ∀ i, v = .int i → i.natAbs < 10 ^ 30 := by
  intro v hv i e
  subst e
  have : ∀ v ∈ menuU, (match v with | .int i => decide (i.natAbs < 10 ^ 30) | _ => true) = true := by decide +kernel
  exact of_decide_eq_true (this _ hv)
theorem menuU_inj : ∀ u ∈ menuU, ∀ v ∈ menuU, decide (rprV u = rprV v) = decide (u = v) := by decide +kernel
theorem menuV_U {v : V} (h : v ∈ menuV) : v ∈ menuU := List.mem_append_left _ h
def rRprS : List V → Hp → VK → Prop := fun xs H Q => ∃ v, xs = [v] ∧ v ∈ menuU ∧ Q (.str (rprV v)) H
theorem rprS {X : Cx} : CallR X (.builtin "repr") rRprS := by
  intro pins s σ H xs us Q I r h
  obtain ⟨v, rfl, hv, q⟩ := h
  have hz := menuU_sz v hv
  rcases okV_cases (menuU_ok v hv) with ⟨b, rfl⟩ | ⟨i, rfl⟩ | ⟨x, rfl⟩
  · obtain ⟨u, rfl, r1⟩ := vals1 r
    cases r1
    exact PySem.P.repr_of_bool ⟨.str _, H, I.tok _, ⟨_, rfl⟩, q⟩
  · obtain ⟨u, rfl, t, rfl⟩ := vals1 r
    refine PySem.P.repr_of_int ?_ ⟨.str _, H, I.tok _, ⟨_, rfl⟩, q⟩
    have h1 := menuU_int _ hv i rfl
    by_cases h0 : i.natAbs = 0
    · rw [h0]
      decide
    · exact (Nat.log2_lt h0).mpr (Nat.lt_of_lt_of_le h1 (Nat.le_trans (by decide : 10 ^ 30 ≤ 2 ^ 100) (Nat.pow_le_pow_right (by decide) (by decide))))
  · obtain ⟨u, rfl, t, rfl⟩ := vals1 r
    refine PySem.P.repr_of_str ⟨.str _, H, I.tok _, ⟨_, rfl⟩, q⟩ ?_
    have : (reprText x).length ≤ 100 := hz
    rw [sizeLine_eq]
    omega
/-! ### entries -/
structure Ent where
  lb : List Str
  v : V
  k : V
def dE (e : Ent) : Dt := .tup [tS e.lb, dOf e.v, dOf e.k]
/-- the entries, as they should be -/
def KnOk (ms : List Str) (kn : List Ent) : Prop := ∀ e ∈ kn, e.lb ∈ belows ms ∧ e.v ∈ menuV ∧ e.k ∈ menuK
/-- the key by which entries are sorted -/
def entK (e : Ent) : PyData := .tuple (.tuple [.int (rkN e.k), toPy (dOf e.k)] :: lbK e.lb)
theorem okV_dp {K : PySem.W.Frag} {H : Hp} {v : V} (h : okV v = true) : Dp K H v (toPy (dOf v)) := by
  rcases okV_cases h with ⟨b, rfl⟩ | ⟨i, rfl⟩ | ⟨s, rfl⟩
  · exact .bl b
  · exact .int i
  · exact .str s
theorem rkD_ok {u v : V} (hu : okV u = true) (hv : okV v = true) : (PyData.eqv (.tuple [.int (rkN u), toPy (dOf u)]) (.tuple [.int (rkN v), toPy (dOf v)]) = true → PySem.W.alike (.tuple [.int (rkN u), toPy (dOf u)]) (.tuple [.int (rkN v), toPy (dOf v)]) = true) ∧ cmpb (.tuple [.int (rkN u), toPy (dOf u)]) (.tuple [.int (rkN v), toPy (dOf v)]) = true := by
  rcases okV_cases hu with ⟨b, rfl⟩ | ⟨i, rfl⟩ | ⟨s, rfl⟩ <;> rcases okV_cases hv with ⟨b', rfl⟩ | ⟨i', rfl⟩ | ⟨s', rfl⟩ <;>
    simp [rkN, dOf, toPy, PyData.eqv, PyData.eqvAll, PySem.W.alike, PySem.W.alikeAll, cmpb, cmpbAll]
theorem entK_cmp {x y : Ent} (hx : okV x.k = true) (hy : okV y.k = true) : cmpb (entK x) (entK y) = true := by
  obtain ⟨h1, h2⟩ := rkD_ok hx hy
  unfold entK
  rw [cmpb, cmpbAll]
  split
  · rename_i h
    rw [h1 h, lbK_cmp]
    rfl
  · exact h2
theorem menuK_lay : ∀ k ∈ menuK, (toPy (dOf k)).canLay0 = true := by decide +kernel
theorem entK_lay {e : Ent} (hk : e.k ∈ menuK) (hl : ∀ m ∈ e.lb, NameOk m) : (entK e).canLay0 = true := by
  have h1 := menuK_lay _ hk
  have h2 := strs_lay hl
  simp [entK, lbK, PyData.canLay0, PyData.canLayAll0, h1, h2]
theorem okV_depth {v : V} (h : okV v = true) : (toPy (dOf v)).depth = 0 := by
  rcases okV_cases h with ⟨b, rfl⟩ | ⟨i, rfl⟩ | ⟨s, rfl⟩ <;> simp [dOf, toPy, PyData.depth]
theorem entK_depth {e : Ent} (h : okV e.k = true) : (entK e).depth = 2 := by
  unfold entK lbK
  simp [PyData.depth, PyData.depthAll, strsD_depth, okV_depth h]
section
variable {K : PySem.W.Frag} {C : Addr} {H : Hp}
/-- an entry in the heap -/
theorem Rp.ent {e : Ent} {u : V} (hv : okV e.v = true) (hk : okV e.k = true) (h : Rp K C H (dE e) u) : ∃ t al, u = .ref t ∧ SqT K H t [.ref al, e.v, e.k] ∧ SqT K H al (e.lb.map V.str) := by
  unfold dE at h
  unfold Rp at h
  obtain ⟨t, xs, rfl, hT, h⟩ := h
  unfold RpA at h
  obtain ⟨v1, r1, rfl, h1, h⟩ := h
  unfold RpA at h
  obtain ⟨v2, r2, rfl, h2, h⟩ := h
  unfold RpA at h
  obtain ⟨v3, r3, rfl, h3, h⟩ := h
  unfold RpA at h
  subst h
  obtain ⟨al, rfl, ha⟩ := Rp.tS_at h1
  rw [okV_inj hv h2, okV_inj hk h3] at hT
  exact ⟨t, al, rfl, hT, ha⟩
theorem Rp.ent_of {e : Ent} {t al : Addr} (hv : okV e.v = true) (hk : okV e.k = true) (h : SqT K H t [.ref al, e.v, e.k]) (ha : SqT K H al (e.lb.map V.str)) : Rp K C H (dE e) (.ref t) := by
  unfold dE
  unfold Rp
  exact ⟨t, _, rfl, h, RpA.cons (Rp.tS_of ha) (RpA.cons (okV_rp hv) (RpA.one (okV_rp hk)))⟩
end
theorem noL_dE {e : Ent} (hv : okV e.v = true) (hk : okV e.k = true) : noL (dE e) = true := by
  show (noL (tS e.lb) && (noL (dOf e.v) && (noL (dOf e.k) && true))) = true
  rw [noL_tS, okV_noL hv, okV_noL hk]
  rfl
/-- the entries of this value below ms -/
def inQ' (hi : List Str) (v : V) (e : Ent) : Bool := isBel e.lb hi && decide (e.v = v)
def entOut (e : Ent) : Dt := .tup [dOf e.k, .str (lt e.lb)]
section
variable {P : Program} {w : World} {K : PySem.W.Frag} {mg : Str → Option Value} {base : Heap}
def spEnts (K : PySem.W.Frag) (T : List (Addr × Str)) : Sp := fun vs H Q _ => ∃ (p : Addr) (vh v : V) (us : List V) (kn : List Ent) (ms hi : List Str), vs = [.ref p, vh, v] ∧ SqL K H p us ∧ RpA K (CL K) H (kn.map dE) us ∧ Rp K (CL K) H (tS hi) vh ∧ v ∈ menuU ∧ LblOk ms ∧ KnOk ms kn ∧ kn.length ≤ 100 ∧ Tabs T H ∧
  ∀ (q : Addr) (es : List Ent) (zs : List V) H', ExtN H H' → Tabs T H' → NewE H q → H' q = some (.lst zs) → es.Perm (kn.filter (inQ' hi v)) → es.Pairwise (fun x y => PySem.W.dataLt (entK y) (entK x) = false) → RpA K (CL K) H' (es.map entOut) zs → Q (.ref q) H'
abbrev s__law_entries : Stmt := top 56
abbrev n__law_entries : List Str := ["_law_known", "_law_high", "_law_value", "_law_some", "_law_one"]
theorem sc__law_entries : FnScope n__law_entries ["_law_known", "_law_high", "_law_value"] (defScope s__law_entries) := ⟨rfl, rfl, rfl, by decide +kernel, rfl, by decide +kernel, by decide +kernel⟩
theorem ok_ents (T : Tx K mg) {Tb : List (Addr × Str)} (L : Tbs K mg base Tb) : Cl CX0 P w K mg base 6 "_law_entries" (spEnts K Tb) := by
  have C__law_below : Cl CX0 P w K mg base 1 "_law_below" (spBel K) := ok_bel T
  have C__law_rank : Cl CX0 P w K mg base 2 "_law_rank" (spRk K) := ok_rk T
  have C__law_label_text : Cl CX0 P w K mg base 1 "_law_label_text" (sp_law_label_text K) := ok_law_label_text T
  obtain ⟨c1, P1, c2, P2, eT, nP, L1, L2'⟩ := L.ex
  refine clL L2' sc__law_entries (fun _ _ _ _ _ _ us hl => match us, hl with | [_, _, _], _ => rfl) (fun vs H Q E h => ?_) (fun f A outer s H vs Q E hr h => ?_)
  · obtain ⟨p, vh, v, us, kn, ms, hi, rfl, _⟩ := h
    rfl
  obtain ⟨p, vh, v, us, kn, ms, hi, rfl, hp, hus, hhi, hv, hms, hkn, hn, hT, k⟩ := h
  refine ⟨_, (pss_cons (ps_setLc (i := 3) (own := [("_law_one", 4)]) rfl sc__law_entries.nd rfl rfl (sw_true rfl rfl rfl (by decide +kernel)) (pi_listK (K := K) (pv 0)) (blkOk_by (own := [("_law_one", 4)]) (N := n__law_entries) (sc := defScope s__law_entries) (by decide +kernel)) (fun _ _ _ _ _ => (pg_name (i := 4) sc__law_entries.nd rfl (Or.inl rfl))) (fun _ _ _ _ _ => pts_one (PW.pt (pw_and (pt_val (pe_cl C__law_below hr (by decide) pass0 rfl (pa_cons (pe_ix (ixT (K := K)) (pv 4) pe_int (fun _ _ => rfl)) (pa_cons (pv 1) pa_nil)))) (pw_and1 (pt_cmpR op_eq (pe_callB (id := "repr") rprS (by rfl) T.b_repr (by decide +kernel) (pa_cons (pe_ix (ixT (K := K)) (pv 4) pe_int (fun _ _ => rfl)) pa_nil)) (pe_callB (id := "repr") rprS (by rfl) T.b_repr (by decide +kernel) (pa_cons (pv 2) pa_nil)) (nomark _)))))) (fun _ _ _ _ _ => (pv 4)))
      (pss_cons (ps_set (i := 3) sc__law_entries.nd rfl (Or.inl rfl) (pe_sortLam (K := K) (k0 := 2) (N := ["_law_one"]) (pn := "_law_one") (T := Tb) rfl T.b_sorted (pa_cons (pv 3) pa_nil) L2'.tb rfl (by rw [eT]; exact List.mem_cons_of_mem _ (List.mem_cons_self ..)) (by rw [eT]; intro p hp e; rcases List.mem_cons.mp hp with rfl | hp; exact absurd e nP; rw [List.mem_singleton.mp hp]; rfl) hr (nscope_by (by decide +kernel)) rfl rfl (nofree (by decide +kernel)) (fun _ _ _ _ _ => rfl) (fun _ _ _ _ _ _ hr' => pe_tup (pa_cons (pe_cl C__law_rank hr' (by decide) pass0 rfl (pa_cons (pe_ix (ixT (K := K)) (pv 0) pe_int (fun _ _ => rfl)) pa_nil)) (pa_cons (pe_callB (id := "len") (lenK (K := K)) (by rfl) T.b_len (by decide +kernel) (pa_cons (pe_ix (ixT (K := K)) (pv 0) pe_int (fun _ _ => rfl)) pa_nil)) (pa_cons (pe_ix (ixT (K := K)) (pv 0) pe_int (fun _ _ => rfl)) pa_nil))))))
      (pss_one (ps_ret (pe_lc (own := [("_law_one", 4)]) rfl sc__law_entries.nd (pi_listK (K := K) (pv 3)) (blkOk_by (own := [("_law_one", 4)]) (N := n__law_entries) (sc := defScope s__law_entries) (by decide +kernel)) (fun _ _ _ _ _ => (pg_name (i := 4) sc__law_entries.nd rfl (Or.inl rfl))) (fun _ _ _ _ _ => pts_nil) (fun _ _ _ _ _ => (pe_tup (pa_cons (pe_ix (ixT (K := K)) (pv 4) pe_int (fun _ _ => rfl)) (pa_cons (pe_cl C__law_label_text hr (by decide) pass0 rfl (pa_cons (pe_ix (ixT (K := K)) (pv 4) pe_int (fun _ _ => rfl)) pa_nil)) pa_nil))))))))), ?_⟩
  have hlen := hus.len
  rw [List.length_map] at hlen
  have okE : ∀ e ∈ kn, okV e.v = true ∧ okV e.k = true := fun e he => ⟨menuV_ok _ (hkn e he).2.1, menuK_ok _ (hkn e he).2.2⟩
  refine ⟨_, rfl, p, rfl, ⟨_, hp⟩, fun D nD => ?_⟩
  refine lcL (K := K) (C := CL K) (fun i => (kn[i]?).bind fun e => if inQ' hi v e = true then some (dE e) else none) (fmSame _) nD (by omega) (fun Hc h => h.seq hp) (fun i d hi2 e => ?_) (fun i x Hc R S hx hM hR hS => ⟨rfl, ?_⟩) (fun Hc ys hM hD hy => ?_) (fun Hc _ => Same.refl Hc)
  · cases h : kn[i]? with
    | none =>
      rw [h] at e
      cases e
    | some en =>
      rw [h, Option.bind_some] at e
      split at e
      · cases e
        exact noL_dE (okE en (List.mem_of_getElem? h)).1 (okE en (List.mem_of_getElem? h)).2
      · cases e
  · obtain ⟨d, h1, h2⟩ := hus.get hx
    rw [List.getElem?_map, Option.map_eq_some_iff] at h1
    obtain ⟨en, hen, rfl⟩ := h1
    have hem := List.mem_of_getElem? hen
    have hio := okE en hem
    obtain ⟨t, al, rfl, ht, ha⟩ := Rp.ent hio.1 hio.2 h2
    have hlo := belows_ok hms (hkn en hem).1
    have ht1 := Same.seqT hM ht
    refine ⟨_, rfl, t, _, 0, .ref al, rfl, rfl, ht1, rfl, _, rfl, .ref al, vh, en.lb, hi, rfl, Rp.tS_of (Same.seqT hM ha), Rp.same hM _ _ hhi, by have := hlo.le; omega, fun H2 e2 => ⟨_, rfl, ?_⟩⟩
    have ht2 := Same.seqT e2 ht1
    have hq : ∀ b, ((kn[i]?).bind fun e => if inQ' hi v e = true then some (dE e) else none) = b ↔ (if inQ' hi v en = true then some (dE en) else none) = b := fun b => by rw [hen]; exact Iff.rfl
    refine ite2 (fun hb => ?_) (fun hb => ?_)
    · refine ⟨_, rfl, t, _, 1, en.v, rfl, rfl, ht2, rfl, en.v, rfl, menuV_U (hkn en hem).2.1, _, rfl, v, rfl, hv, rfl, _, rfl, ?_⟩
      have hd : decide (V.str (rprV en.v) = V.str (rprV v)) = decide (en.v = v) := by
        rw [← menuU_inj en.v (menuV_U (hkn en hem).2.1) v hv]
        exact decide_eq_decide.mpr ⟨fun h => by injection h, fun h => by rw [h]⟩
      rw [hd]
      refine ite2 (fun hc => ?_) (fun hc => ?_)
      · refine ⟨_, rfl, hS _ _ (dE en) e2 ((hq _).mpr (if_pos (by unfold inQ'; rw [hb, hc]; rfl))) (Rp.ent_of hio.1 hio.2 ht2 (Same.seqT (hM.trans e2) ha))⟩
      · refine hR _ e2 ((hq _).mpr (if_neg (fun z => hc ?_)))
        unfold inQ' at z
        exact (Bool.and_eq_true_iff.mp z).2
    · refine iteF (hR _ e2 ((hq _).mpr (if_neg (fun z => hb ?_))))
      unfold inQ' at z
      exact (Bool.and_eq_true_iff.mp z).1
  · have e : (List.range us.length).filterMap (fun i => (kn[i]?).bind fun e => if inQ' hi v e = true then some (dE e) else none) = (kn.filter (inQ' hi v)).map dE := by
      rw [hlen, fm_list, fm_if (fun e => inQ' hi v e = true)]
      congr 1
      refine List.filter_congr fun x _ => ?_
      cases inQ' hi v x <;> rfl
    rw [e] at hy
    have hyl := hy.len
    rw [List.length_map] at hyl
    have hfl := List.length_filter_le (inQ' hi v) kn
    have hkf : ∀ e ∈ kn.filter (inQ' hi v), e ∈ kn := fun e he => (List.mem_filter.mp he).1
    refine ⟨_, rfl, hT.ext hM, fun H2 eN T2 => ?_⟩
    have hz2 : RpA K (CL K) H2 ((kn.filter (inQ' hi v)).map dE) ys := RpA.extN eN _ _ (noLA_of fun d hd => by obtain ⟨l, hl, rfl⟩ := List.mem_map.mp hd; exact noL_dE (okE l (hkf l hl)).1 (okE l (hkf l hl)).2) hy
    have hmap1 : (ys.zip (kn.filter (inQ' hi v))).map (·.1) = ys := List.map_fst_zip (by omega)
    have hmap2 : (ys.zip (kn.filter (inQ' hi v))).map (·.2) = kn.filter (inQ' hi v) := List.map_snd_zip (by omega)
    have hat := fun x (hx : x ∈ ys.zip (kn.filter (inQ' hi v))) => RpA.zip (f := dE) hz2 x hx
    have hmem := fun x (hx : x ∈ ys.zip (kn.filter (inQ' hi v))) => hkf _ (List.of_mem_zip hx).2
    refine ⟨.ref D, Ent, ys.zip (kn.filter (inQ' hi v)), entK, rfl, ⟨⟨D, rfl, by rw [hmap1]; exact SqL.of (eN _ _ hD fun _ z => by cases z)⟩, ⟨.type "tuple", ⟨fun d hd d' hd' => ?_, fun d hd => ?_, fun d hd => ?_⟩, by decide⟩, fun x hx => ?_⟩, fun x hx H3 e3 => ?_, fun ws q H3 e3 nq hq hp2 hw => ?_⟩
    · obtain ⟨x, hx, rfl⟩ := List.mem_map.mp hd
      obtain ⟨y, hy', rfl⟩ := List.mem_map.mp hd'
      exact entK_cmp (okE _ (hmem x hx)).2 (okE _ (hmem y hy')).2
    · obtain ⟨x, hx, rfl⟩ := List.mem_map.mp hd
      exact entK_lay (hkn _ (hmem x hx)).2.2 (belows_ok hms (hkn _ (hmem x hx)).1).nm
    · obtain ⟨x, _, rfl⟩ := List.mem_map.mp hd
      exact ⟨_, _, rfl, rfl⟩
    · show (entK x.2).depth ≤ 10
      rw [entK_depth (okE _ (hmem x hx)).2]
      decide
    · obtain ⟨t, al, ex, ht, ha⟩ := Rp.ent (okE _ (hmem x hx)).1 (okE _ (hmem x hx)).2 (hat x hx)
      have hk := (okE _ (hmem x hx)).2
      rw [ex]
      have ht3 := Same.seqT e3 ht
      have ha3 := Same.seqT e3 ha
      refine ⟨_, rfl, t, _, 2, x.2.k, rfl, rfl, ht3, rfl, x.2.k, rfl, hk, fun H4 q e4 nq hq => ?_⟩
      have ht4 := Same.seqT e4 ht3
      have ha4 := Same.seqT e4 ha3
      refine ⟨_, rfl, t, _, 0, .ref al, rfl, rfl, ht4, rfl, _, x.2.lb.length, rfl, .inr ⟨_, ha4, by rw [List.length_map]⟩, _, rfl, t, _, 0, .ref al, rfl, rfl, ht4, rfl, szl (Nat.le_of_ble_eq_true rfl), fun q5 nq5 => ⟨e4.trans (Same.new nq5), ?_⟩⟩
      have e5 := Same.new (u := .tup [.ref q, .int (x.2.lb.length : Int), .ref al]) nq5
      have hd := Rp.dp (tS x.2.lb) _ (noBA_strs x.2.lb) (Rp.tS_of (C := CL K) (Same.seqT e5 ha4))
      rw [toPy_tS] at hd
      exact .tup (.inl (.inl upd_same)) (.cons (.tup (.inl (.inl (e5 _ _ hq))) (.cons (.int _) (.cons (okV_dp hk) .nil))) (.cons (.int _) (.cons hd .nil)))
    · have hwm : ∀ x ∈ ws, x ∈ ys.zip (kn.filter (inQ' hi v)) := fun x hx => hp2.mem_iff.mp hx
      have hwl : ws.length ≤ 100 := by
        rw [hp2.length_eq, List.length_zip]
        omega
      refine ⟨_, rfl, q, rfl, ⟨_, SqL.of hq⟩, fun D3 nD3 => ?_⟩
      have eAll := LamX.ExtN.trans (LamX.ExtN.of hM) (LamX.ExtN.trans eN (LamX.ExtN.of e3))
      refine lcL (K := K) (C := CL K) (fun i => (ws[i]?).bind fun x => some (entOut x.2)) (fmSame _) nD3 (by rw [List.length_map]; omega) (fun Hc h => SqL.of (h _ _ hq)) (fun i d _ e => ?_) (fun i x Hc R S hx hM5 _ hS => ⟨rfl, yes_go ?_⟩) (fun Hc zs hM5 hD5 hzs => ?_) (fun Hc _ => Same.refl Hc)
      · cases h : ws[i]? with
        | none =>
          rw [h] at e
          cases e
        | some y =>
          rw [h] at e
          cases e
          have := (okE _ (hmem y (hwm y (List.mem_of_getElem? h)))).2
          show (noL (dOf y.2.k) && (true && true)) = true
          rw [okV_noL this]
          rfl
      · rw [List.getElem?_map, Option.map_eq_some_iff] at hx
        obtain ⟨y, hy1, rfl⟩ := hx
        have hym := hwm y (List.mem_of_getElem? hy1)
        obtain ⟨t, al, ex, ht, ha⟩ := Rp.ent (okE _ (hmem y hym)).1 (okE _ (hmem y hym)).2 (hat y hym)
        have ht5 := Same.seqT (e3.trans hM5) ht
        have ha5 := Same.seqT (e3.trans hM5) ha
        rw [ex]
        refine ⟨_, rfl, t, _, 2, y.2.k, rfl, rfl, ht5, rfl, _, rfl, t, _, 0, .ref al, rfl, rfl, ht5, rfl, .ref al, y.2.lb, rfl, Rp.tS_of ha5, belows_ok hms (hkn _ (hmem y hym)).1, fun H6 e6 => ⟨szl (Nat.le_of_ble_eq_true rfl), fun q7 nq7 => ?_⟩⟩
        refine hS _ _ (entOut y.2) (e6.trans (Same.new nq7)) (by rw [hy1]; rfl) ?_
        unfold entOut Rp
        exact ⟨q7, _, rfl, .inl (.inl upd_same), RpA.cons (okV_rp (okE _ (hmem y hym)).2) (RpA.one rfl)⟩
      · have e : (List.range (ws.map (·.1)).length).filterMap (fun i => (ws[i]?).bind fun x => some (entOut x.2)) = (ws.map (·.2)).map entOut := by
          rw [List.length_map, fm_list, fm_map, List.map_map]
          rfl
        rw [e] at hzs
        refine k D3 (ws.map (·.2)) zs Hc (LamX.ExtN.trans eAll (LamX.ExtN.of hM5)) (T2.ext (e3.trans hM5)) (fun o ho => ?_) hD5 (by rw [← hmap2]; exact hp2.map _) (List.pairwise_map.mpr hw) hzs
        cases o with
        | tbl ps => exact ⟨ps, rfl⟩
        | _ =>
          have := eAll _ _ ho (fun _ z => by cases z)
          rw [nD3] at this
          cases this
end
end Abv
set_option Elab.async false
set_option linter.all false
set_option maxRecDepth 100000
set_option maxHeartbeats 4000000
/-! ## The law's different values -/
namespace Abv
open PySem PySem.Spec PyProof.Rows L2
/-- the different values below hi, as they come -/
def difF (hi : List Str) (kn : List Ent) : List V := kn.foldl (fun acc e => if (isBel e.lb hi && !decide (e.v ∈ acc)) = true then acc ++ [e.v] else acc) []
theorem difF_snoc (hi : List Str) (kn : List Ent) (e : Ent) : difF hi (kn ++ [e]) = if (isBel e.lb hi && !decide (e.v ∈ difF hi kn)) = true then difF hi kn ++ [e.v] else difF hi kn := by
  unfold difF
  rw [List.foldl_append]
  rfl
theorem difF_ok (hi : List Str) (kn : List Ent) : (difF hi kn).Nodup ∧ ∀ v, v ∈ difF hi kn ↔ ∃ e ∈ kn, isBel e.lb hi = true ∧ e.v = v := by
  suffices h : ∀ n (kn : List Ent), kn.length = n → (difF hi kn).Nodup ∧ ∀ v, v ∈ difF hi kn ↔ ∃ e ∈ kn, isBel e.lb hi = true ∧ e.v = v from h _ kn rfl
  intro n
  induction n with
  | zero =>
    intro kn h
    rw [List.length_eq_zero_iff.mp h]
    refine ⟨List.nodup_nil, fun v => ⟨fun h => (by cases h), ?_⟩⟩
    rintro ⟨e, he, _⟩
    cases he
  | succ n ih =>
    intro kn h
    rcases List.eq_nil_or_concat kn with rfl | ⟨l, e, eq⟩
    · cases h
    rw [List.concat_eq_append] at eq
    subst eq
    obtain ⟨h1, h2⟩ := ih l (by simpa using h)
    rw [difF_snoc]
    split
    · rename_i hc
      rw [Bool.and_eq_true, Bool.not_eq_true', decide_eq_false_iff_not] at hc
      refine ⟨?_, fun v => ?_⟩
      · rw [List.nodup_append]
        refine ⟨h1, by simp, fun a ha b hb => ?_⟩
        rw [List.mem_singleton.mp hb]
        rintro rfl
        exact hc.2 ha
      · rw [List.mem_append, List.mem_singleton, h2]
        constructor
        · rintro (⟨x, hx, hx2⟩ | rfl)
          · exact ⟨x, List.mem_append_left _ hx, hx2⟩
          · exact ⟨e, List.mem_append_right _ (List.mem_singleton.mpr rfl), hc.1, rfl⟩
        · rintro ⟨x, hx, hx2⟩
          rcases List.mem_append.mp hx with hx | hx
          · exact .inl ⟨x, hx, hx2⟩
          · rw [List.mem_singleton.mp hx] at hx2
            exact .inr hx2.2.symm
    · rename_i hc
      refine ⟨h1, fun v => ?_⟩
      rw [h2]
      constructor
      · rintro ⟨x, hx, hx2⟩
        exact ⟨x, List.mem_append_left _ hx, hx2⟩
      · rintro ⟨x, hx, hx2⟩
        rcases List.mem_append.mp hx with hx | hx
        · exact ⟨x, hx, hx2⟩
        · rw [List.mem_singleton.mp hx] at hx2
          by_cases hm : e.v ∈ difF hi l
          · obtain ⟨x', k1, k2, k3⟩ := (h2 _).mp hm
            exact ⟨x', k1, k2, k3.trans hx2.2⟩
          · exact absurd (by rw [hx2.1, decide_eq_false hm]; rfl) hc
theorem difF_len (hi : List Str) (kn : List Ent) : (difF hi kn).length ≤ kn.length := by
  suffices h : ∀ n (kn : List Ent), kn.length = n → (difF hi kn).length ≤ n from h _ kn rfl
  intro n
  induction n with
  | zero =>
    intro kn h
    rw [List.length_eq_zero_iff.mp h]
    exact Nat.le_refl _
  | succ n ih =>
    intro kn h
    rcases List.eq_nil_or_concat kn with rfl | ⟨l, e, eq⟩
    · cases h
    rw [List.concat_eq_append] at eq
    subst eq
    have := ih l (by simpa using h)
    rw [difF_snoc]
    split
    · rw [List.length_append]
      show _ + 1 ≤ _
      omega
    · omega
theorem mem_rpr {v : V} (hv : v ∈ menuU) : ∀ {l : List V}, (∀ u ∈ l, u ∈ menuU) → decide (rprV v ∈ l.map rprV) = decide (v ∈ l)
  | [], _ => by simp
  | u :: l, h => by
    have ih := mem_rpr hv fun u hu => h u (List.mem_cons_of_mem _ hu)
    have h1 := menuU_inj v hv u (h u (List.mem_cons_self ..))
    refine decide_eq_decide.mpr ?_
    rw [List.map_cons, List.mem_cons, List.mem_cons, decide_eq_decide.mp h1, decide_eq_decide.mp ih]
/-- the key by which values are sorted -/
def rkD (v : V) : PyData := .tuple [.int (rkN v), toPy (dOf v)]
theorem menuV_lay : ∀ k ∈ menuV, (toPy (dOf k)).canLay0 = true := by decide +kernel
theorem rkD_lay {v : V} (h : v ∈ menuV) : (rkD v).canLay0 = true := by
  have h1 := menuV_lay _ h
  simp [rkD, PyData.canLay0, PyData.canLayAll0, h1]
theorem rkD_depth {v : V} (h : okV v = true) : (rkD v).depth = 1 := by
  unfold rkD
  simp [PyData.depth, PyData.depthAll, okV_depth h]
section
variable {P : Program} {w : World} {K : PySem.W.Frag} {mg : Str → Option Value} {base : Heap}
def spLDif (K : PySem.W.Frag) : Sp := fun vs H Q _ => ∃ (p : Addr) (vh : V) (us : List V) (kn : List Ent) (ms hi : List Str), vs = [.ref p, vh] ∧ SqL K H p us ∧ RpA K (CL K) H (kn.map dE) us ∧ Rp K (CL K) H (tS hi) vh ∧ LblOk ms ∧ KnOk ms kn ∧ kn.length ≤ 100 ∧
  ∀ (q : Addr) (zs : List V) H', Same H H' → H q = none → H' q = some (.lst zs) → zs.Perm (difF hi kn) → zs.Pairwise (fun x y => PySem.W.dataLt (rkD y) (rkD x) = false) → Q (.ref q) H'
abbrev s__law_different : Stmt := top 57
abbrev n__law_different : List Str := ["_law_known", "_law_high", "_law_found", "_law_low", "_law_value", "_law_lead", "_law_one"]
theorem sc__law_different : FnScope n__law_different ["_law_known", "_law_high"] (defScope s__law_different) := ⟨rfl, rfl, rfl, by decide +kernel, rfl, by decide +kernel, by decide +kernel⟩
theorem ok_ldif (T : Tx K mg) : Cl CX0 P w K mg base 6 "_law_different" (spLDif K) := by
  have C__law_below : Cl CX0 P w K mg base 1 "_law_below" (spBel K) := ok_bel T
  have C__law_rank : Cl CX0 P w K mg base 2 "_law_rank" (spRk K) := ok_rk T
  obtain ⟨fr, FR0, gmr, _⟩ := C__law_rank.ex
  have FR := FR0.mono (show 2 ≤ 3 by decide)
  refine cl0 T.f__law_different sc__law_different (fun _ _ _ _ _ _ us hl => match us, hl with | [_, _], _ => rfl) (fun vs H Q E h => ?_) (fun f cdv A outer s H vs Q E hr h => ?_)
  · obtain ⟨p, vh, us, kn, ms, hi, rfl, _⟩ := h
    rfl
  obtain ⟨p, vh, us, kn, ms, hi, rfl, hp, hus, hhi, hms, hkn, hn, k⟩ := h
  refine ⟨_, (pss_cons (ps_set (i := 2) sc__law_different.nd rfl (Or.inl rfl) (pe_lst pa_nil))
      (pss_cons (ps_for PassesOwn.never rfl (pi_listK (K := K) (pv 0)) (pg_tup rfl (pgs_cons (pg_name (i := 3) sc__law_different.nd rfl (Or.inl rfl)) (pgs_cons (pg_name (i := 4) sc__law_different.nd rfl (Or.inl rfl)) (pgs_cons (pg_name (i := 5) sc__law_different.nd rfl (Or.inl rfl)) pgs_nil))))
        (pss_one (ps_if (PW.pt (pw_and (pt_val (pe_cl C__law_below hr (by decide) pass0 rfl (pa_cons (pv 3) (pa_cons (pv 1) pa_nil)))) (pw_and1 (pt_cmpR (niQ (K := K)) (pe_callB (id := "repr") rprS (by rfl) T.b_repr (by decide +kernel) (pa_cons (pv 4) pa_nil)) (pe_lc (own := [("_law_one", 6)]) rfl sc__law_different.nd (pi_listK (K := K) (pv 2)) (blkOk_by (own := [("_law_one", 6)]) (N := n__law_different) (sc := defScope s__law_different) (by decide +kernel)) (fun _ _ _ _ _ => (pg_name (i := 6) sc__law_different.nd rfl (Or.inl rfl))) (fun _ _ _ _ _ => pts_nil) (fun _ _ _ _ _ => (pe_callB (id := "repr") rprS (by rfl) T.b_repr (by decide +kernel) (pa_cons (pv 6) pa_nil)))) (by rfl))))) (pss_one (ps_expr (pe_bmK (K := K) PySem.F.plainAttrs_list PySem.F.slot_list_append PySem.F.type_list_append mt_append (pv 2) (pa_cons (pv 4) pa_nil)))) pss_nil)))
      (pss_one (ps_ret (pe_callBK (ks := [Str.ofString "key"]) (x := "sorted") (cr_srtF (K := K) FR hr) rfl T.b_sorted rfl (pa_cons (pv 2) pa_nil) (pk_cons (pe_glob (v := .ref fr) rfl gmr rfl) pk_nil)))))), ?_⟩
  have hlen := hus.len
  rw [List.length_map] at hlen
  have okE : ∀ e ∈ kn, okV e.v = true ∧ okV e.k = true := fun e he => ⟨menuV_ok _ (hkn e he).2.1, menuK_ok _ (hkn e he).2.2⟩
  refine ⟨szl (Nat.zero_le _), fun D nD => ?_⟩
  have e0 := Same.new (u := .lst []) nD
  have hD0 := upd_same (H := H) (a := D) (o := .lst [])
  show (fun H3 => _) (upd H D (.lst []))
  generalize upd H D (.lst []) = H0 at e0 hD0
  refine ⟨_, rfl, p, rfl, ⟨_, e0.seq hp⟩, forJ us.length (fun i σ H1 => Same H H1 ∧ H1 D = some (.lst (difF hi (kn.take i))) ∧ ∃ y z u x, σ = [some (.ref p), some vh, some (.ref D), y, z, u, x]) ?_ ?_ ?_ ?_ ?_⟩
  · exact ⟨e0, hD0, none, none, none, none, rfl⟩
  · exact fun i σ H1 hi h => ⟨_, _, h.1.seq hp, List.getElem?_eq_getElem hi⟩
  · exact fun σ H1 h => ⟨_, h.1.seq hp, Nat.le_refl _⟩
  · rintro i x σ H1 H2 hi2 ⟨e1, hD1, y, z, u, x', rfl⟩ ⟨rfl, hx⟩
    have hx := hx _ (e1.seq hp)
    obtain ⟨d, h1, h2⟩ := hus.get hx
    rw [List.getElem?_map, Option.map_eq_some_iff] at h1
    obtain ⟨en, hen, rfl⟩ := h1
    have hem := List.mem_of_getElem? hen
    have hio := okE en hem
    obtain ⟨t, al, rfl, ht, ha⟩ := Rp.ent hio.1 hio.2 h2
    have hlo := belows_ok hms (hkn en hem).1
    have hvU := menuV_U (hkn en hem).2.1
    have hdl : (difF hi (kn.take i)).length ≤ 100 := Nat.le_trans (difF_len _ _) (by rw [List.length_take]; omega)
    have hdm : ∀ u ∈ difF hi (kn.take i), u ∈ menuU := fun u hu => by
      obtain ⟨e, he, _, rfl⟩ := ((difF_ok hi (kn.take i)).2 u).mp hu
      exact menuV_U (hkn e (List.mem_of_mem_take he)).2.1
    have hsn : difF hi (kn.take (i + 1)) = if (isBel en.lb hi && !decide (en.v ∈ difF hi (kn.take i))) = true then difF hi (kn.take i) ++ [en.v] else difF hi (kn.take i) := by
      rw [List.take_add_one, hen]
      exact difF_snoc hi (kn.take i) en
    have no : ∀ H3, Same H2 H3 → ¬ (isBel en.lb hi && !decide (en.v ∈ difF hi (kn.take i))) = true → Same H H3 ∧ H3 D = some (.lst (difF hi (kn.take (i + 1)))) := fun H3 h3 hc => by
      rw [hsn, if_neg hc]
      exact ⟨e1.trans h3, h3 _ _ hD1⟩
    refine ⟨t, _, rfl, Same.seqT e1 ht, rfl, _, _, rfl, _, _, rfl, _, _, rfl, rfl, ?_⟩
    refine ⟨_, rfl, _, rfl, .ref al, vh, en.lb, hi, rfl, Rp.tS_of (Same.seqT e1 ha), Rp.same e1 _ _ hhi, by have := hlo.le; omega, fun H3 e3 => ⟨_, rfl, ?_⟩⟩
    refine ite2 (fun hb => ?_) (fun hb => ?_)
    · refine ⟨_, rfl, en.v, rfl, hvU, _, rfl, D, rfl, ⟨_, SqL.of (e3 _ _ hD1)⟩, fun D2 nD2 => ?_⟩
      refine lcL (K := K) (C := CL K) (fun j => ((difF hi (kn.take i))[j]?).bind fun v => some (.str (rprV v))) (fmSame _) nD2 (by omega) (fun Hc h => SqL.of (h _ _ (e3 _ _ hD1))) (fun j d _ e => ?_) (fun j v Hc R S hv hM _ hS => ⟨rfl, yes_go ?_⟩) (fun Hc zs hM hD2 hz => ?_) (fun Hc _ => Same.refl Hc)
      · cases h : (difF hi (kn.take i))[j]? with
        | none =>
          rw [h] at e
          cases e
        | some v =>
          rw [h] at e
          cases e
          rfl
      · refine ⟨_, rfl, v, rfl, hdm v (List.mem_of_getElem? hv), hS _ _ (.str (rprV v)) (Same.refl _) (by rw [hv]; rfl) rfl⟩
      · have e : (List.range (difF hi (kn.take i)).length).filterMap (fun j => ((difF hi (kn.take i))[j]?).bind fun v => some (Dt.str (rprV v))) = ((difF hi (kn.take i)).map rprV).map Dt.str := by
          rw [fm_list, fm_map, List.map_map]
          rfl
        rw [e] at hz
        have hz := hz.strs
        subst hz
        refine ⟨D2, _, rfl, .inl (SqL.of hD2), rfl, all_flat_strs _, _, rfl, ?_⟩
        rw [inV_strs, mem_rpr hvU hdm]
        have e13 := e3.trans hM
        refine ite2 (fun hc => ?_) (fun hc => ?_)
        · have hcc : (isBel en.lb hi && !decide (en.v ∈ difF hi (kn.take i))) = true := by
            rw [hb]
            exact hc
          refine ⟨_, rfl, Or.inl ⟨rfl, _, SqL.of (e13 _ _ hD1)⟩, _, rfl, D, _, _, rfl, rfl, e13 _ _ hD1, by rw [sizeLine_eq]; omega, ?_⟩
          refine ⟨Same.upd (e1.trans e13) nD, ?_, _, _, _, _, rfl⟩
          rw [hsn, if_pos hcc]
          exact upd_same
        · obtain ⟨n1, n2⟩ := no Hc e13 (fun z => hc (Bool.and_eq_true_iff.mp z).2)
          exact ⟨n1, n2, _, _, _, _, rfl⟩
    · obtain ⟨n1, n2⟩ := no H3 e3 (fun z => hb (Bool.and_eq_true_iff.mp z).1)
      exact iteF ⟨n1, n2, _, _, _, _, rfl⟩
  · rintro σ H1 ⟨e1, hD1, y, z, u, x', rfl⟩
    rw [hlen, List.take_length] at hD1
    have hdm : ∀ u ∈ difF hi kn, okV u = true := fun u hu => by
      obtain ⟨e, he, _, rfl⟩ := ((difF_ok hi kn).2 u).mp hu
      exact (okE e he).1
    have hdM : ∀ u ∈ difF hi kn, u ∈ menuV := fun u hu => by
      obtain ⟨e, he, _, rfl⟩ := ((difF_ok hi kn).2 u).mp hu
      exact (hkn e he).2.1
    have hm1 : ((difF hi kn).map fun v => (v, v)).map (·.1) = difF hi kn := by
      rw [List.map_map]
      exact List.map_id _
    refine ⟨_, rfl, .ref D, V, (difF hi kn).map fun v => (v, v), rkD, rfl, rfl, ⟨⟨D, rfl, by rw [hm1]; exact SqL.of hD1⟩, ⟨.type "int", ⟨fun d hd d' hd' => ?_, fun d hd => ?_, fun d hd => ?_⟩, by decide⟩, fun x hx => ?_⟩, fun x hx H3 e3 => ?_, fun ws q H3 e3 nq hq hp2 hw => ?_⟩
    · obtain ⟨x, hx, rfl⟩ := List.mem_map.mp hd
      obtain ⟨y, hy, rfl⟩ := List.mem_map.mp hd'
      obtain ⟨v, hv, rfl⟩ := List.mem_map.mp hx
      obtain ⟨v', hv', rfl⟩ := List.mem_map.mp hy
      exact (rkD_ok (hdm v hv) (hdm v' hv')).2
    · obtain ⟨x, hx, rfl⟩ := List.mem_map.mp hd
      obtain ⟨v, hv, rfl⟩ := List.mem_map.mp hx
      exact rkD_lay (hdM v hv)
    · obtain ⟨x, hx, rfl⟩ := List.mem_map.mp hd
      exact ⟨_, _, rfl, rfl⟩
    · obtain ⟨v, hv, rfl⟩ := List.mem_map.mp hx
      show (rkD v).depth ≤ 10
      rw [rkD_depth (hdm v hv)]
      decide
    · obtain ⟨v, hv, rfl⟩ := List.mem_map.mp hx
      refine ⟨v, rfl, hdm v hv, fun H' q e nq hq => ⟨e, .tup (.inl (.inl hq)) (.cons (.int _) (.cons (okV_dp (hdm v hv)) .nil))⟩⟩
    · have hws : ∀ x ∈ ws, x.1 = x.2 := fun x hx => by
        obtain ⟨v, _, rfl⟩ := List.mem_map.mp (hp2.mem_iff.mp hx)
        rfl
      refine k q (ws.map (·.1)) H3 (e1.trans e3) (e1.free nq) hq ?_ (List.pairwise_map.mpr (List.Pairwise.imp_of_mem (fun {a b} ha hb h => ?_) hw))
      · have := hp2.map (·.1)
        rw [hm1] at this
        exact this
      · rw [hws a ha, hws b hb]
        exact h
end
end Abv
set_option Elab.async false
set_option linter.all false
set_option maxRecDepth 100000
set_option maxHeartbeats 4000000
/-! ## repr of a label -/
namespace Abv
open PySem PySem.Spec PyProof.Rows L2
/-- repr(label) -/
def lrT (ms : List Str) : Str := Str.empty ++ "Label(" ++ Txt.join ", " (ms.map reprText) ++ ")"
theorem rT_len {m : Str} (h : NameOk m) : (reprText m).length ≤ 82 := by
  have := PySem.StrLaws.reprText_len m fun c hc => by
    have := h.2.2 c hc
    omega
  have := h.2.1
  omega
theorem rTs_len : ∀ {ms : List Str}, (∀ m ∈ ms, NameOk m) → ((ms.map reprText).map (·.length)).sum ≤ ms.length * 82
  | [], _ => Nat.le_refl _
  | m :: r, h => by
    rw [List.map_cons, List.map_cons, List.sum_cons, List.length_cons]
    have := rTs_len fun x hx => h x (List.mem_cons_of_mem _ hx)
    have := rT_len (h m (List.mem_cons_self ..))
    omega
theorem join_len_le (sep : Str) (l : List Str) : (Txt.join sep l).length ≤ (l.map (·.length)).sum + l.length * sep.length := by
  rw [TL.join_eq, TL.len_tl, TL.tl_join]
  have h1 := joinL_len (TL.tl sep) (l.map TL.tl)
  have h2 : ((l.map TL.tl).map List.length).sum = (l.map (·.length)).sum := by
    rw [List.map_map]
    congr 1
  rw [h2, List.length_map] at h1
  exact h1
theorem lrT_len {ms : List Str} (h : LblOk ms) : (lrT ms).length ≤ 400 := by
  unfold lrT
  rw [str_len_append, str_len_append, str_len_append]
  have h1 := join_len_le ", " (ms.map reprText)
  have h2 := rTs_len h.nm
  have h3 := h.le
  have e1 : (Str.empty).length = 0 := rfl
  have e2 : (Str.ofString "Label(").length = 6 := by decide +kernel
  have e3 : (Str.ofString ")").length = 1 := by decide +kernel
  have e4 : (Str.ofString ", ").length = 2 := by decide +kernel
  rw [e4, List.length_map] at h1
  rw [e1, e2, e3]
  omega
def rRprT : List V → Hp → VK → Prop := fun xs H Q => ∃ x : Str, xs = [.str x] ∧ (reprText x).length ≤ sizeLine ∧ Q (.str (reprText x)) H
theorem rprT {X : Cx} : CallR X (.builtin "repr") rRprT := by
  intro pins s σ H xs us Q I r h
  obtain ⟨x, rfl, hz, q⟩ := h
  obtain ⟨u, rfl, t, rfl⟩ := vals1 r
  exact PySem.P.repr_of_str ⟨.str _, H, I.tok _, ⟨_, rfl⟩, q⟩ hz
section
variable {P : Program} {w : World} {K : PySem.W.Frag} {mg : Str → Option Value} {base : Heap}
def spRpr (K : PySem.W.Frag) : Sp := fun vs H Q _ => ∃ a ms, vs = [.ref a] ∧ Rp K (CL K) H (.lab ms) (.ref a) ∧ LblOk ms ∧ ∀ H', Same H H' → Q (.str (lrT ms)) H'
abbrev s_Label___repr__ : Stmt := inClass (top 37) 11
abbrev n_Label___repr__ : List Str := ["self", "marks", "mark"]
theorem sc_Label___repr__ : FnScope n_Label___repr__ ["self"] (defScope s_Label___repr__) := ⟨rfl, rfl, rfl, by decide +kernel, rfl, by decide +kernel, by decide +kernel⟩
theorem ok_lrepr (T : Tx K mg) (Y : Ty K) : FnR P w K mg base CX0 1 (He.ma K (CL K) "__repr__") (spRpr K) := by
  refine ofDF Y.lrepr.2 sc_Label___repr__ (fun _ _ _ _ _ _ us hl => match us, hl with | [_], _ => rfl) (fun vs H Q E h => ?_) (fun cdv A outer s H vs Q E hr h => ?_)
  · obtain ⟨a, ms, rfl, _⟩ := h
    rfl
  obtain ⟨a, ms, rfl, hv, hl, k⟩ := h
  refine ⟨_, PSs.nox (pss_cons (ps_set (i := 1) sc_Label___repr__.nd rfl (Or.inl rfl) (pe_joinK (K := K) pe_str (pe_lc (own := [("mark", 2)]) rfl sc_Label___repr__.nd (pi_tupK (K := K) (pe_fldK (K := K) (pv 0))) (blkOk_by (own := [("mark", 2)]) (N := n_Label___repr__) (sc := defScope s_Label___repr__) (by decide +kernel)) (fun _ _ _ _ _ => (pg_name (i := 2) sc_Label___repr__.nd rfl (Or.inl rfl))) (fun _ _ _ _ _ => pts_nil) (fun _ _ _ _ _ => (pe_callB (id := "repr") rprT (by rfl) T.b_repr (by decide +kernel) (pa_cons (pv 2) pa_nil))))))
      (pss_one (ps_ret (pe_joined (PJ.cons pe_str (PJ.cons (pe_fmt (pv 1)) (PJ.cons pe_str PJ.nil))))))), ?_⟩
  unfold Rp at hv
  obtain ⟨a', dx, t, ea, h2, h3⟩ := hv
  obtain rfl : a = a' := by injection ea
  refine ⟨⟨_, rfl⟩, _, rfl, a, CL K, dx, _, _, rfl, h2, Y.cL, Y.aM, rfl, t, rfl, ⟨_, h3⟩, fun D nD => ?_⟩
  refine lcT (K := K) (C := CL K) (fun i => (ms[i]?).bind fun m => some (.str (reprText m))) (fmSame _) nD (by rw [List.length_map]; have := hl.le; omega) (fun Hc h => Same.seqT h h3) (fun i d _ e => ?_) (fun i x Hc R S hx hM _ hS => ⟨rfl, yes_go ?_⟩) (fun Hc ys hM hD hy => ?_) (fun Hc _ => Same.refl Hc)
  · cases h : ms[i]? with
    | none =>
      rw [h] at e
      cases e
    | some m =>
      rw [h] at e
      cases e
      rfl
  · rw [List.getElem?_map, Option.map_eq_some_iff] at hx
    obtain ⟨m, hm, rfl⟩ := hx
    have := rT_len (hl.nm m (List.mem_of_getElem? hm))
    exact ⟨_, rfl, m, rfl, szl (by omega), hS _ _ (.str (reprText m)) (Same.refl _) (by rw [hm]; rfl) rfl⟩
  · have e : (List.range (ms.map V.str).length).filterMap (fun i => (ms[i]?).bind fun m => some (Dt.str (reprText m))) = (ms.map reprText).map Dt.str := by
      rw [List.length_map, fm_list, fm_map, List.map_map]
      rfl
    rw [e] at hy
    have hy := hy.strs
    subst hy
    have h1 := rTs_len hl.nm
    have h4 := hl.le
    have e4 : (Str.ofString ", ").length = 2 := by decide +kernel
    have hj := join_len_le ", " (ms.map reprText)
    rw [e4, List.length_map] at hj
    have hz := lrT_len hl
    refine ⟨_, D, _, rfl, rfl, .inl (SqL.of hD), by rw [e4, List.length_map]; omega, ?_⟩
    have e0 : (Txt.join (Str.ofString ", ") (ms.map reprText)).length ≤ 380 := by omega
    have e2 : (Str.empty ++ Str.ofString "Label(").length = 6 := by decide +kernel
    have e3 : (Str.ofString ")").length = 1 := by decide +kernel
    refine ⟨_, rfl, by decide +kernel, _, rfl, .inl ⟨_, rfl, szl (by omega), _, rfl, ?_, _, rfl, ?_, k _ hM⟩⟩
    · rw [str_len_append, e2, sizeLine_eq]
      omega
    · rw [str_len_append, str_len_append, e2, e3, sizeLine_eq]
      omega
end
end Abv
set_option Elab.async false
set_option linter.all false
set_option maxRecDepth 100000
set_option maxHeartbeats 4000000
/-! ## try: .. except (X1, X2) as n: .., where one of the two always takes it -/
namespace Abv
open PySem PySem.Spec PyProof.Rows L2
theorem fly_push {B h : Heap} {l : List Env} {a : Addr} {Z : Obj → Prop} {o : Obj} (x : PX.FlyingZ B l a Z h) : PX.FlyingZ B l a Z (h.push o) := by
  obtain ⟨x1, x2, x3, oe, vs, T, oT, ts, y1, y2, y3, y4, y5, y6, y7, y8, y9⟩ := x
  exact ⟨fun b u e => Heap.get?_push_of_some _ (x1 b u e), x2, PySem.Heap.FunFrames.of_keeps (fun b u e _ => ⟨u, Heap.get?_push_of_some _ e, rfl⟩) x3, oe, vs, T, oT, ts, Heap.get?_push_of_some _ y1, y2, y3, y4, y5, y6, Heap.get?_push_of_some _ y7, y8, y9⟩
/-- the wish of an exception that one of the two takes -/
def wTup (K : PySem.W.Frag) (c1 c2 : Value) (i : Nat) (ts : Addr → Value → Option Addr → TS) (D : Ends) : WX := fun cls d σ H =>
  PySem.W.exmAny K cls [c1, c2] = some true ∧ ∀ a, H a = none → ts a cls d { nx := fun σ' H' => D.nx (σ'.set i none) H', rt := D.rt, bk := fun σ' H' => D.bk (σ'.set i none) H', ct := fun σ' H' => D.ct (σ'.set i none) H' } (σ.set i (some (.ref a))) H
section
variable {X : Cx} {x1 x2 n : Str} {c1 c2 : Addr} {i kk : Nat} {body rest : List Stmt} {b₀ : Stmt} {p1 p2 tp q1 q2 : Pos} {tb : WX → TS} {ts : Addr → Value → Option Addr → TS}
theorem ps_tryTup (hs : X.stack = X.env :: X.outer) (hf : X.env.frame = some X.env.locals) (hN : X.N.Nodup) (hi : X.N[i]? = some n) (hln : X.env.kindOf n = some .local) (g1 : Gl X x1) (g2 : Gl X x2) (m1 : X.mg x1 = some (.ref c1)) (m2 : X.mg x2 = some (.ref c2))
    (d1 : (x1 == ("__debug__" : Str)) = false) (d2 : (x2 == ("__debug__" : Str)) = false)
    (hb : ∀ (W : WX) (pn : List (Addr × Obj)) (xe : Value → Shared → Prop), (∀ q ∈ X.pn, q ∈ pn) → Takes (X.tr pn xe) W → PassesOwn (model X.prog X.w) X.A X.env xe → PSs (X.tr pn xe) body (tb W))
    (hsu : ∀ (a : Addr) (oe : Obj) (cls : Value) (d : Option Addr) (pn : List (Addr × Obj)), Zc cls d oe → (∃ vs, oe.data = .fields vs) → PSs (X.suite a ((a, oe) :: pn)) (b₀ :: rest) (ts a cls d)) :
    PS X (.Try body [.ExceptHandler (some (.Tuple [.Name x1 p1, .Name x2 p2] kk tp)) (some n) (b₀ :: rest) q1] [] [] q2) (fun D σ H => tb (wTup X.K (.ref c1) (.ref c2) i ts D) D σ H) := by
  refine ⟨fun pins s σ H D I h => ?_⟩
  have ok := I.ok
  have frs0 : X.A.frames = some (X.env :: X.outer) := ok.frames.trans (congrArg some hs)
  refine wpAny_Try_except ?_
  refine wpAny_mono ((hb (wTup X.K (.ref c1) (.ref c2) i ts D) (X.pn ++ pins) (fun e sa => wpAny (model X.prog X.w) X.A (noteFrame e X.env) (fun _ sb => wpAny (model X.prog X.w) X.A (setFlight e none) (fun _ sc =>
    wpAny (model X.prog X.w) X.A (handleBy e X.env [.ExceptHandler (some (.Tuple [.Name x1 p1, .Name x2 p2] kk tp)) (some n) (b₀ :: rest) q1]) (SP X pins D) X.xe sc) X.xe sb) X.xe sa) (fun q hq => List.mem_append_left _ hq) (fun u sz xx => ?_) PassesOwn.looking).run [] s σ H D (I.toTry _) h) (fun f s1 hsp => ?_) (fun e s1 he => he)
  · obtain ⟨a, B, sI, pinsZ, σZ, HZ, cls, d, rfl, JZ, nb, up, sky, na, os, ag, hx, hyes⟩ := xx
    have J := JZ.ofTry ok
    have skyZ : Sky B (X.env :: X.outer) a (Zc cls d) X.env.locals sz.heap := by rw [← hs]; exact sky
    show wpAny (model X.prog X.w) X.A (noteFrame (.ref a) X.env) _ _ _
    refine Sky.land Zc.steady frs0 hf skyZ fun h3 fl3 up3 => ?_
    have J3 : Inv X pins σZ HZ { sz with heap := h3 } := J.landed nb fl3.1 (up.trans up3) os ag
    obtain ⟨oe3, vs3, he3, hz3, hd3⟩ := fl3.there
    have nfr : a ∉ frs (X.env :: X.outer) := fun hm => by
      obtain ⟨_, ob, eb, hnf⟩ := fl3.2.2.1.mem hm
      rw [he3] at eb
      cases eb
      exact hnf _ hd3
    have nL : a ≠ X.env.locals := fun z => nfr (List.mem_filterMap.mpr ⟨X.env, List.mem_cons_self, by rw [hf, z]⟩)
    have nF : a ∉ X.fs := fun hm => by
      obtain ⟨e, he, q⟩ := List.mem_filterMap.mp hm
      exact nfr (List.mem_filterMap.mpr ⟨e, List.mem_cons_of_mem _ he, q⟩)
    have S3 := J3.suite he3 hd3 na nL nF
    refine wpAny_handleBy_cons (codeAny_handlers_test ?_) (by intro q; cases q)
    refine Tuple_ (spliced_more (ld_glob (X := X.suite a ((a, oe3) :: (X.pn ++ pins))) S3 g1 m1 (spliced_more (ld_glob (X := X.suite a ((a, oe3) :: (X.pn ++ pins))) S3 g2 m2 (spliced_none ?_) d2)) d1))
    refine wpAny_newTuple ?_ (by simp [sizeLine_eq])
    have flP : PX.FlyingZ B (X.env :: X.outer) a (Zc cls d) (h3.push { cls := .type "tuple", data := .seq [Value.ref c1, Value.ref c2].toArray }) := fly_push fl3
    have upP : h3.UpToSlots (h3.push { cls := .type "tuple", data := .seq [Value.ref c1, Value.ref c2].toArray }) := Heap.UpToSlots.of_keeps fun b o e => Heap.get?_push_of_some _ e
    have kinP : X.K.In (h3.push { cls := .type "tuple", data := .seq [Value.ref c1, Value.ref c2].toArray }) := J3.kIn.keeps fun b o e => Heap.get?_push_of_some _ e
    have heP : (h3.push { cls := .type "tuple", data := .seq [Value.ref c1, Value.ref c2].toArray }).get? a = some oe3 := Heap.get?_push_of_some _ he3
    have LT : PySem.W.Looks (model X.prog X.w) (h3.push { cls := .type "tuple", data := .seq [Value.ref c1, Value.ref c2].toArray }) (typeOf (.ref a)) cls := fun A Q E s k q => wpAny_typeOf_ref (k _ _ heP) (by rw [hz3.1]; exact q)
    have LM := PySem.W.exm_tup2 (M := model X.prog X.w) kinP LT (Heap.get?_push_size _ rfl) hx
    refine LM.here ?_
    refine codeAny_handlers_suite_as ?_
    refine HandSPX.lands_againZ flP fun h4 fl4 up4 => ?_
    have J4 : Inv X pins σZ HZ { sz with heap := h4 } := J.landed nb fl4.1 (((up.trans up3).trans upP).trans up4) os ag
    obtain ⟨oe4, vs4, he4, hz4, hd4⟩ := fl4.there
    have S4 := J4.suite he4 hd4 na nL nF
    refine store_ok (X := X.suite a ((a, oe4) :: (X.pn ++ pins))) (v := .ref a) S4 hN hi (.inl hln) rfl (fun s5 S5 => ?_) (.inr hln)
    refine wpAny_mono ((hsu a oe4 cls d (X.pn ++ pins) hz4 ⟨_, hd4⟩).run [] s5 _ HZ _ S5 (hyes a na)) (fun f s6 hsp => ?_) (fun _ _ z => False.elim z)
    have fin : ∀ {σ6 : L2.St} {H6 : Hp} {Q : Shared → Prop}, Inv (X.suite a ((a, oe4) :: (X.pn ++ pins))) [] σ6 H6 s6 → (∀ s7, Inv X pins (σ6.set i none) H6 s7 → Q s7) →
        wpAny (model X.prog X.w) X.A (do bindName X.env n .none; unbindBehindTheSuite X.env n q1) (fun _ s7 => Q s7) X.xe s6 := fun {σ6 H6 Q} S6 hq => gone_ok (S6.unsuite ok) hN hi hln hq
    cases f with
    | next =>
      obtain ⟨σ6, H6, S6, z6⟩ := hsp
      exact fin S6 fun s7 J7 => ⟨_, _, J7, z6⟩
    | brk =>
      obtain ⟨σ6, H6, S6, z6⟩ := hsp
      exact fin S6 fun s7 J7 => ⟨_, _, J7, z6⟩
    | cont =>
      obtain ⟨σ6, H6, S6, z6⟩ := hsp
      exact fin S6 fun s7 J7 => ⟨_, _, J7, z6⟩
    | ret u =>
      obtain ⟨v6, σ6, H6, S6, r6, z6⟩ := hsp
      exact fin S6 fun s7 J7 => ⟨_, _, _, J7, r6, z6⟩
  · cases f with
    | next =>
      obtain ⟨σz, Hz, Jz, z⟩ := hsp
      exact wpAny_execs_nil ⟨σz, Hz, Jz.ofTry ok, z⟩
    | brk =>
      obtain ⟨σz, Hz, Jz, z⟩ := hsp
      exact ⟨σz, Hz, Jz.ofTry ok, z⟩
    | cont =>
      obtain ⟨σz, Hz, Jz, z⟩ := hsp
      exact ⟨σz, Hz, Jz.ofTry ok, z⟩
    | ret u =>
      obtain ⟨v, σz, Hz, Jz, r, z⟩ := hsp
      exact ⟨v, σz, Hz, Jz.ofTry ok, r, z⟩
end
end Abv
set_option Elab.async false
set_option linter.all false
set_option maxRecDepth 100000
set_option maxHeartbeats 4000000
/-! ## told_error(e) while e is handled -/
namespace Abv
open PySem PySem.Spec PyProof.Rows L2
/-- the reading of e.told_parts: a the exception, cls its class, d its dict -/
def tTp (K : PySem.W.Frag) (a : Addr) (cls : Value) (d : Option Addr) (te : TE) : TE := fun σ H Q => te σ H fun x H1 => x = .ref a ∧ ∃ (C dd : Addr) (fs : List (Str × V)) (v : V), cls = .ref C ∧ XfC K C ∧ PySem.W.findIn K (.ref C) "told_parts" = some none ∧ d = some dd ∧ H1 dd = some (.xd fs) ∧ fs.lookup ("told_parts" : Str) = some v ∧ Q v H1
theorem pe_tp {X : Cx} {a : Addr} {oe : Obj} {cls : Value} {d : Option Addr} {e : Expr} {te : TE} {pos : Pos} (hp : (a, oe) ∈ X.pn) (hz : Zc cls d oe) (hf : ∃ vs, oe.data = .fields vs) (he : PE X e te) (hb : attributeBase e "told_parts" X.env (eval e X.env) = eval e X.env := by rfl) :
    PE X (.Attribute e "told_parts" pos) (tTp X.K a cls d te) := by
  refine ⟨fun pins s σ H Q I h => ?_⟩
  refine attr_of hb (thn (he.run pins s σ H _ I h) fun u sa hh => ?_)
  obtain ⟨x, H1, I1, rx, rfl, C, dd, fs, v, rfl, T, hno, rfl, ea, l, q⟩ := hh
  obtain rfl : u = Value.ref a := rx
  obtain ⟨ha, _⟩ := I1.pin (a, oe) (List.mem_append_left _ hp)
  obtain ⟨vs, hd⟩ := hf
  obtain ⟨mA, hns, hr⟩ := (show ObjOk X.prog X.w H1 sa.heap dd (.xd fs) from I1.hok dd _ ea)
  obtain ⟨od, ho, hl⟩ := lookIn_ns hns
  obtain ⟨u, hu, ru⟩ := RelO.some_of (v := v) (o := mA "told_parts") (by rw [← l]; exact hr "told_parts")
  have J : PySem.W.InstAt sa.heap a oe C (some od) := ⟨ha, hz.1, by unfold PySem.W.notCls; rw [hd] <;> rfl, by rw [hz.2]; exact ho⟩
  exact HandSPX.exc_get I1.kIn J T.ga T.gg T.exC (PySem.W.findObj_own T.hdC hno rfl (by rw [hl, hu])) (handed_of ru) ⟨v, H1, I1.tok _, ru, q⟩
abbrev s_told_error : Stmt := top 11
abbrev n_told_error : List Str := ["error"]
theorem sc_told_error : FnScope n_told_error ["error"] (defScope s_told_error) := ⟨rfl, rfl, rfl, by decide +kernel, rfl, by decide +kernel, by decide +kernel⟩
theorem pe_told {X : Cx} {a : Addr} {oe : Obj} {cls : Value} {d : Option Addr} {e : Expr} {te : TE} {p pos : Pos} (T : Tx X.K X.mg) (hp : (a, oe) ∈ X.pn) (hz : Zc cls d oe) (hf : ∃ vs, oe.data = .fields vs) (hr : L2H.RoomH 1 X.A) (hg : Gl X "told_error") (ha : PA X [e] (tCons te tNil))
    (hs : starEach [e] X.env = (false, eval e X.env) :: starEach [] X.env := by rfl) :
    PE X (.Call (.Name "told_error" p) [e] [] pos) (tTp X.K a cls d te) := by
  obtain ⟨hm, fd, D⟩ := T.f_told_error
  obtain ⟨oc, od, dV, kV, doc, pm, an, cdv, ct, osl, efd, lk, hcd, _, _⟩ := D.ex
  have hb := D.bindsN (fun _ _ _ _ _ _ us hl => match us, hl with | [_], _ => rfl) (ps := (["error"] : List Str))
  subst efd
  refine ⟨fun pins s σ H Q I h => ?_⟩
  refine wpAny_Call_Name_kw (ld_glob I hg hm ?_ (by decide))
  refine PySem.W.callWith_K (h₀ := X.base) I.ok.mod.kin D.kp (thn (ha.run pos pins s σ H (fun vs H1 => match vs with | [x] => x = .ref a ∧ ∃ (C dd : Addr) (fs : List (Str × V)) (v : V), cls = .ref C ∧ XfC X.K C ∧ PySem.W.findIn X.K (.ref C) "told_parts" = some none ∧ d = some dd ∧ H1 dd = some (.xd fs) ∧ fs.lookup ("told_parts" : Str) = some v ∧ Q v H1 | _ => False) I h) fun us sa hh => ?_) hs (by rfl)
  · obtain ⟨vs, H1, I1, r, hh⟩ := hh
    obtain ⟨x, rfl, hh⟩ : ∃ x, vs = [x] ∧ (x = .ref a ∧ ∃ (C dd : Addr) (fs : List (Str × V)) (v : V), cls = .ref C ∧ XfC X.K C ∧ PySem.W.findIn X.K (.ref C) "told_parts" = some none ∧ d = some dd ∧ H1 dd = some (.xd fs) ∧ fs.lookup ("told_parts" : Str) = some v ∧ Q v H1) := by
      match vs, hh with
      | [x], hh => exact ⟨x, rfl, hh⟩
    obtain ⟨rfl, hg2⟩ := hh
    refine ⟨I1.kIn, ?_⟩
    have P1 := I1.pin (a, oe) (List.mem_append_left _ hp)
    have hpin : L2H.PinOk X.stack H1 sa (a, oe) := ⟨P1.1, P1.2.1, fun hm => (List.mem_cons.mp (I1.stkSub a hm)).elim P1.2.2.1 P1.2.2.2.1, P1.2.2.2.2⟩
    have e0 := I1.env0
    have KX : X.K.In sa.heap := I1.kIn
    have S := sc_told_error
    have b := hb sa us I1.kIn (by rw [List.append_nil, ← r.length]; rfl)
    rw [List.append_nil] at b
    have hkind : ∀ y ∈ (["error"] : List Str).zip us, (defScope s_told_error).names.lookup y.1 = some .local ∨ ((defScope s_told_error).names.lookup y.1 = some .cell ∧ ((cellsFrom (sa.heap.objs.size + 1) (defScope s_told_error).names []).lookup y.1).isSome = true) := fun ⟨n, v⟩ hy => by
      rcases S.par n (List.of_mem_zip hy).1 with q | q
      · exact .inl q
      · exact .inr ⟨q, PySem.W.cellsFrom_some _ _ _ (.inl q)⟩
    have run : codeAny (model X.prog X.w) X.A (.call (.ref (He.ga X.K "told_error")) ⟨us, []⟩) (CR CX0 X.stack X.prog X.w H1 sa Q E0) sa := by
      refine codeAny_call_function hr.depth (KX _ _ lk) rfl S.co S.gen rfl (PySem.W.codeRec_of KX hcd) (b _ _ _ _ ?_)
      refine wpAny_newFunctionEnv_cells S.kind hkind fun env he s1 x => ?_
      subst he
      refine ⟨(e0.mod.nolimit.keeps fun b o e => (e0.bs b o e).1).keeps x.toInCall.keep, codeAny_func ?_⟩
      have I2 := L2H.inv_startH (CX := CX0) (N := n_told_error) (E := E0) S hpin e0 rfl r x
      have body : PSs (L2H.cxH CX0 X.prog X.w X.K X.mg X.base n_told_error "told_error" (defScope s_told_error) (He.ga X.K "told_error") cdv X.A X.stack sa H1 E0 (a, oe)) (defBody s_told_error) _ := pss_one (ps_ret (pe_tp (a := a) (oe := oe) (cls := cls) (d := d) (List.mem_cons_self ..) hz hf (pv 0)))
      refine wpAny_mono (body.run [] s1 (start n_told_error [.ref a]) H1 { nx := fun _ H' => Q .non H', rt := Q } I2 ⟨_, rfl, rfl, hg2⟩) (fun fl s' hq => ?_) fun e s' hq => hq
      cases fl with
      | ret u =>
        obtain ⟨v, σ', H', J, rv, q⟩ := hq
        exact ⟨v, H', J.os, J.bare, J.base, J.hok, rv, q⟩
      | next =>
        obtain ⟨σ', H', J, q⟩ := hq
        exact ⟨V.non, H', J.os, J.bare, J.base, J.hok, rfl, q⟩
      | brk =>
        obtain ⟨_, _, _, q⟩ := hq
        exact False.elim q
      | cont =>
        obtain ⟨_, _, _, q⟩ := hq
        exact False.elim q
    refine wpAny_call (codeAny_mono run fun r2 s2 hq => ?_)
    cases r2 with
    | error e => exact False.elim hq
    | ok fl =>
      cases fl with
      | ret u => exact I1.after hq
      | next => exact False.elim hq
      | brk => exact False.elim hq
      | cont => exact False.elim hq
end Abv
set_option Elab.async false
set_option linter.all false
set_option maxRecDepth 100000
set_option maxHeartbeats 4000000
/-! ## repr of nested data, labels among them -/
namespace Abv
open PySem PySem.Spec PyProof.Rows L2
open Builtin Builtin.List
/-- repr(x) within other reprs: x's text is t -/
def RJ (X : Cx) (σ : L2.St) (H : Hp) (as : List Addr) (d : Nat) (x : V) (t : Str) : Prop :=
  ∀ (b : Nat), b + t.length ≤ sizeLine → ∀ (A : Around) (g : List Code) (E : Value → Shared → Prop) (s : Shared) (Q : Str → Shared → Prop) (pins : List (Addr × Obj)) (H1 : Hp) (u : Value), A.guards = some g → (∀ c ∈ as, Clear g c) → A.frames = X.A.frames → Room d A →
    Inv X pins σ H1 s → Same H H1 → RelV x u → (∀ s2 H2, Inv X pins σ H2 s2 → Same H1 H2 → Q t s2) → wpAny (model X.prog X.w) A (pyReprUnder b u) Q E s
section
variable {X : Cx} {σ : L2.St} {H : Hp} {as : List Addr} {d : Nat} {x : V} {t : Str}
theorem RJ.more {as' : List Addr} (h : RJ X σ H as d x t) (hs : ∀ c ∈ as, c ∈ as') : RJ X σ H as' d x t := fun b hb A g E s Q pins H1 u hg hc => h b hb A g E s Q pins H1 u hg fun c hm => hc c (hs c hm)
theorem RJ.up {d' : Nat} (h : RJ X σ H as d x t) (hd : d ≤ d') : RJ X σ H as d' x t := fun b hb A g E s Q pins H1 u hg hc hf hr => h b hb A g E s Q pins H1 u hg hc hf (hr.mono hd)
theorem RJ.same {H' : Hp} (h : RJ X σ H as d x t) (e : Same H H') : RJ X σ H' as d x t := fun b hb A g E s Q pins H1 u hg hc hf hr I e1 => h b hb A g E s Q pins H1 u hg hc hf hr I (e.trans e1)
theorem RJ.of_is (h : ∀ u, RelV x u → ReprIs X.prog X.w u t) : RJ X σ H as d x t := fun b hb A g E s Q pins H1 u _ _ _ _ I _ r hQ => h u r b hb A E s Q fun tk => hQ _ _ (I.tok tk) (Same.refl _)
/-- an own __repr__ -/
theorem RJ.lab {a C f : Addr} {k : Nat} {sp : Sp} (S : Spc X.K C "__repr__" f) (F : FnR X.prog X.w X.K X.mg X.base CX0 k f sp) (hi : ∃ dx fs, H a = some (.ins C dx fs)) (hk : k ≤ d)
    (h : ∀ H1, Same H H1 → sp [.ref a] H1 (fun v H2 => v = .str t ∧ Same H1 H2) E0) : RJ X σ H as d (.ref a) t := by
  intro b hb A g E s Q pins H1 u hg hc hf hr I e r hQ
  obtain rfl : u = Value.ref a := r
  obtain ⟨dx, fs, ea⟩ := hi
  obtain ⟨mA, O, _⟩ := ins_get I.hok (e _ _ ea)
  obtain ⟨od, J, _⟩ := O.look
  refine wpAny_pyReprUnder_ref (by omega) ?_
  unfold pyReprObjUnder pyReprObjBy
  refine wpAny_bind (wpAny_cRoomFor (by have := hr.un; omega) ?_)
  refine wpAny_bind (wpAny_bind (J.type.here ((PySem.W.looks_findIn I.kIn S.at_).here ?_)))
  refine wpAny_bind ?_
  simp only [callSpecialIfBoundBy?, bindSpecialIfBound?]
  refine wpAny_holding (wpAny_bind (wpAny_bind (wpAny_bind (J.type.here ((PySem.W.looks_findIn I.kIn S.at_).here ?_)))))
  refine wpAny_bind (wpAny_askSetting (wpAny_ite ?_))
  have go : wpAny (model X.prog X.w) A (call (.ref f) [.ref a]) (fun v s2 => ∃ y H2, Inv X pins σ H2 s2 ∧ RelV y v ∧ y = .str t ∧ Same H1 H2) E s := by
    refine wpAny_call (codeAny_mono (F A X.stack s H1 [.ref a] [.ref a] _ E0 (hr.mono hk) ?_ (.cons rfl .nil) (h H1 e)) fun r s2 hq => ?_)
    · have e0 := I.env0
      exact ⟨hf.trans e0.frames, e0.mod, e0.bs, e0.bsz, e0.funs, e0.frf, e0.hok, e0.bare⟩
    cases r with
    | error e => exact False.elim hq
    | ok fl =>
      cases fl with
      | ret u =>
        obtain ⟨y, H2, I2, ry, q1, q2⟩ := I.after hq
        exact ⟨y, H2, I2, ry, q1, q2⟩
      | next => exact False.elim hq
      | brk => exact False.elim hq
      | cont => exact False.elim hq
  have fin : wpAny (model X.prog X.w) A (call (.ref f) ([.ref a] ++ []) >>= fun v => pure (some v)) (fun r s2 => ∃ tk, r = some (.str t tk) ∧ Q t s2) E s := by
    refine wpAny_bind (thn go fun v s2 hv => ?_)
    obtain ⟨y, H2, I2, ry, rfl, e2⟩ := hv
    obtain ⟨tk, rfl⟩ := ry
    exact wpAny_pure ⟨tk, rfl, hQ s2 H2 I2 e2⟩
  have post : wpAny (model X.prog X.w) A (call (.ref f) ([.ref a] ++ []) >>= fun v => pure (some v)) (fun r s' => wpAny (model X.prog X.w) A
      (match r with
      | some r => do
        if ← isInstance r (Value.type "str") then pure r
          else raiseError "TypeError" s!"__repr__ returned non-string (type {← PySem.typeNameOf r})"
      | none => unsupported "repr:special-get-raises")
      (fun v s' => ∃ x u, v = Value.str x u ∧ Q x s') E s') E s := thn fin fun r s2 hr2 => by
    obtain ⟨tk, rfl, hq⟩ := hr2
    exact wpAny_bind (wpAny_isInstance (T := "str") (b := true) rfl isSubtype_str_str (wpAny_pure ⟨t, tk, rfl, hq⟩))
  split
  · exact wpAny_bind ((PySem.W.bind_fn I.kIn _ (beq_iff_eq.mp S.fn)).here (wpAny_pure (by exact post)))
  · exact wpAny_tryCatch (wpAny_bind ((PySem.W.bind_fn I.kIn _ (beq_iff_eq.mp S.fn)).here (wpAny_pure (by exact post))))
end
end Abv
set_option Elab.async false
set_option linter.all false
set_option maxRecDepth 100000
set_option maxHeartbeats 4000000
/-! ## repr of lists, tuples -/
namespace Abv
open PySem PySem.Spec PyProof.Rows L2
open Builtin Builtin.List
theorem room_loop {d : Nat} {A : Around} {args : Args} (hr : Room (d + 1) A) : Room d (A.under (.builtin "list.__repr__.loop" args)) := by
  have e1 := units_under_list_loop A args
  have c1 : (Code.builtin "list.__repr__.loop" args).isCreation = false := by rfl
  have c2 : (Code.builtin "list.__repr__.loop" args).isCaller = false := by rfl
  have e2 : (A.under (.builtin "list.__repr__.loop" args)).depth = A.depth + 1 := by
    show A.depth + (Code.builtin "list.__repr__.loop" args).weight = _
    unfold Code.weight
    rw [c1, c2, isGuard_list_loop]
    rfl
  refine ⟨hr.hd, ?_, ?_⟩
  · rw [e2]
    have := hr.dp
    omega
  · rw [e1]
    have := hr.un
    omega
theorem frames_loop {A : Around} {id : String} {args : Args} : (A.under (.builtin id args)).frames = A.frames := by
  first | rfl | simp [Around.under, Code.envs, Code.isFrame, pushEnvs]
section
variable {X : Cx} {σ : L2.St} {H : Hp} {as : List Addr} {d : Nat}
theorem rj_loop {a P : Addr} {A : Around} {R : Result → Shared → Prop} {xs : List V} {ts : List Str} {b : Nat} {g : List Code} {pins : List (Addr × Obj)} (hg : A.guards = some g) (hcl : ∀ c ∈ as, Clear g c) (hf : A.frames = X.A.frames) (hr : Room (d + 1) A) (hna : a ∉ as) (hlen : ts.length = xs.length)
    (fP : FrA X pins P) (hs : SqL X.K H a xs) (hT : ∀ (i : Nat) (x : V), xs[i]? = some x → ∃ t, ts[i]? = some t ∧ RJ X σ H as d x t) (hsz : b + (listText ts).length ≤ sizeLine) :
    ∀ (k i : Nat) (s : Shared) (H1 : Hp) (acc : Array Value) (c : Nat) (done : List (Str × Tok)), xs.length - i = k → i ≤ xs.length → Inv X ((P, seqObj "list" acc c) :: pins) σ H1 s → Same H H1 → acc.toList = strValues done → done.map (·.1) = ts.take i →
    (∀ s2 H2 u, Inv X pins σ H2 s2 → Same H1 H2 → R (.ok (.ret (.str (listText ts) u))) s2) →
    codeAny (model X.prog X.w) A (.builtin "list.__repr__.loop" ⟨[.ref a, rawInt i, .ref P, rawInt ((b + piled (ts.take i) : Nat) : Int)], []⟩) R s := by
  have hX : (listText ts).length = (textFrom 0 "[" ts).length + 1 := by
    show (textFrom 0 "[" ts ++ "]").length = _
    rw [strLen_append]
    rfl
  have hL := textFrom_len ts 0 "["
  have hz1 : xs.length ≤ sizeLine := by
    have h1 := hL.1
    rw [if_neg (Nat.lt_irrefl 0)] at h1
    omega
  have hz2 : ∀ t ∈ ts, t.length ≤ sizeLine := fun t ht => by
    have h2 := hL.2.1 t ht
    omega
  have hp3 := piled_le_listText ts
  intro k
  induction k with
  | zero =>
    intro i s H1 acc c done hk hi I e hacc hdone hR
    have hin : i = xs.length := by omega
    have hP := (I.pin (P, seqObj "list" acc c) (List.mem_append_right _ (List.mem_cons_self ..))).1
    obtain ⟨its, rv, pl, _⟩ := I.list (e.seq hs)
    obtain ⟨oa, ha, _, na, hda⟩ := pl.isList
    have hil := rv.length
    refine codeAny_builtin F.entry_list_repr_loop ?_
    show wpAny _ _ («list.__repr__.loop» ⟨[.ref a, .int i 0, .ref P, .int ((b + piled (ts.take i) : Nat) : Int) 0], []⟩) _ _ s
    rw [repr_loop_tree]
    refine wpAny_bind (wpAny_listItems ha hda ?_)
    have hnone : its.toArray[(i : Int).toNat]? = none := by
      rw [Int.toNat_natCast, Array.getElem?_eq_none]
      simp
      omega
    simp only [hnone]
    unfold reprEnd
    refine wpAny_bind (wpAny_listItems hP rfl ?_)
    rw [hacc, repr_fold]
    refine wpAny_bind (wpAny_pure ?_)
    have hall : done.map (·.1) = ts := by rw [hdone, hin, ← hlen, List.take_length]
    rw [hall]
    refine wpAny_bind (wpAny_mkStr (wpAny_pure ?_) (show (listText ts).length ≤ sizeLine by omega))
    have I0 : Inv X pins σ H1 s := I.pins_of fun p hp => I.pin p (List.mem_append_right _ (List.mem_cons_of_mem _ hp))
    exact hR _ H1 _ (I0.tok _) (Same.refl _)
  | succ k ih =>
    intro i s H1 acc c done hk hi I e hacc hdone hR
    have hlt : i < xs.length := by omega
    have hP := (I.pin (P, seqObj "list" acc c) (List.mem_append_right _ (List.mem_cons_self ..))).1
    obtain ⟨its, rv, pl, _⟩ := I.list (e.seq hs)
    obtain ⟨oa, ha, _, na, hda⟩ := pl.isList
    have hil := rv.length
    have hxi : xs[i]? = some xs[i] := List.getElem?_eq_getElem hlt
    obtain ⟨u, hu, ru⟩ := rv.get hxi
    obtain ⟨t, ht, hrep⟩ := hT i _ hxi
    have hp1 := piled_take_succ ht
    have hp2 := piled_take_le ts (i + 1)
    refine codeAny_builtin F.entry_list_repr_loop ?_
    show wpAny _ _ («list.__repr__.loop» ⟨[.ref a, .int i 0, .ref P, .int ((b + piled (ts.take i) : Nat) : Int) 0], []⟩) _ _ s
    rw [repr_loop_tree]
    refine wpAny_bind (wpAny_listItems ha hda ?_)
    have hsome : its.toArray[(i : Int).toNat]? = some u := by
      rw [Int.toNat_natCast]
      simpa using hu
    simp only [hsome]
    rw [Int.toNat_natCast]
    refine wpAny_bind (wpAny_holding (hrep (b + piled (ts.take i) + 1) (by omega) _ _ _ _ _ _ _ u (guards_under_guard (isGuard_list_loop _) hg) (fun c hc => (hcl c hc).cons (a := a) fun e => hna (e ▸ hc)) (by rw [frames_loop]; exact hf) (room_loop hr) I e ru fun s2 H2 I2 e2 => ?_))
    have hP2 := (I2.pin (P, seqObj "list" acc c) (List.mem_append_right _ (List.mem_cons_self ..))).1
    refine wpAny_bind (wpAny_mkStr ?_ (hz2 t (List.mem_of_getElem? ht)))
    refine wpAny_bind ?_
    show wpAny _ _ (updateSeq P _) _ _ _
    have hasz : acc.size ≤ sizeLine := by
      have e1 : acc.toList.length = acc.size := by simp
      have e2 : (strValues done).length = done.length := by simp [strValues]
      have e3 : done.length = (ts.take i).length := by rw [← hdone, List.length_map]
      have e4 : (ts.take i).length ≤ i := by rw [List.length_take]; omega
      rw [hacc] at e1
      omega
    refine wpAny_updateSeq hP2 rfl (wpAny_pure ⟨F.quiet_list_repr_loop _, ?_⟩) hasz
    have e1 : ((i : Int) + 1) = ((i + 1 : Nat) : Int) := by omega
    have e2' : b + piled (ts.take i) + (t.length + 2) = b + piled (ts.take (i + 1)) := by omega
    rw [e1, e2']
    have sb := Heap.SameBut.update s2.heap P (Obj.mapSeq (·.push (.str t s2.toks)))
    obtain ⟨c2, hc2⟩ : ∃ c2, (s2.heap.update P (Obj.mapSeq (·.push (.str t s2.toks)))).get? P = some (seqObj "list" (acc.push (.str t s2.toks)) c2) := ⟨_, get?_update_seq hP2 (·.push (.str t s2.toks))⟩
    have I3 := inv_pinset (t' := s2.toks + 1) I2 fP (fun c u hc e => (sb.2 c hc).trans e) hc2 (fun v => by simp [seqObj])
    refine ih (i + 1) _ H2 (acc.push (.str t s2.toks)) c2 (done ++ [(t, s2.toks)]) (by omega) hlt I3 (e.trans e2) (by simp [hacc, strValues]) (by simp [List.take_add_one, ht, hdone]) fun s3 H3 u3 J3 e3 => hR s3 H3 u3 J3 (e2.trans e3)
end
end Abv
set_option Elab.async false
set_option linter.all false
set_option maxRecDepth 100000
set_option maxHeartbeats 4000000
/-! ## repr of lists, tuples: whole -/
namespace Abv
open PySem PySem.Spec PyProof.Rows L2
open Builtin Builtin.List
section
variable {X : Cx} {σ : L2.St} {H : Hp} {as : List Addr} {d : Nat}
/-- a new object, pinned -/
theorem inv_pinNew {pins : List (Addr × Obj)} {H1 : Hp} {s : Shared} {o : Obj} (I : Inv X pins σ H1 s) (hc : o.isFreed = false := by rfl) (nc : ∀ v, o.data ≠ .cell v := by simp [seqObj]) : Inv X ((s.heap.objs.size, o) :: pins) σ H1 { s with heap := s.heap.push o } := by
  have fP := frA_new I (Nat.le_refl _)
  have I1 : Inv X pins σ H1 { s with heap := s.heap.push o, toks := s.toks } := I.kept fun b o e => Heap.get?_push_of_some _ e
  refine I1.pins_of fun p hp => ?_
  rcases List.mem_cons.mp hp with rfl | hp
  · exact ⟨Heap.get?_push_size _ hc, I.hok.fresh (Nat.le_refl _), fP.2.1, fP.2.2.2.2, nc⟩
  · exact I1.pin p (List.mem_append_right _ hp)
theorem rj_listAt {a : Addr} {A : Around} {R : Result → Shared → Prop} {xs : List V} {ts : List Str} {b : Nat} {g : List Code} {pins : List (Addr × Obj)} {s : Shared} {H1 : Hp} (hg : A.guards = some g) (hcl : ∀ c ∈ a :: as, Clear g c) (hf : A.frames = X.A.frames) (hr : Room (d + 1) A) (hna : a ∉ as) (hlen : ts.length = xs.length) (hne : xs ≠ [])
    (hs : SqL X.K H a xs) (hT : ∀ (i : Nat) (x : V), xs[i]? = some x → ∃ t, ts[i]? = some t ∧ RJ X σ H as d x t) (hsz : b + (listText ts).length ≤ sizeLine) (I : Inv X pins σ H1 s) (e : Same H H1)
    (hR : ∀ s2 H2 u, Inv X pins σ H2 s2 → Same H1 H2 → R (.ok (.ret (.str (listText ts) u))) s2) :
    wpAny (model X.prog X.w) A.in1 (Builtin.listReprAt b ⟨[.ref a], []⟩) (fun fin s' => match fin with | .done f => R (.ok f) s' | .again c' => c'.quiet = true ∧ codeAny (model X.prog X.w) A c' R s') (fun e s' => R (.error e) s') s := by
  have hca : Clear g a := hcl a (.head _)
  obtain ⟨its, rv, pl, _⟩ := I.list (e.seq hs)
  obtain ⟨oa, ha, hc, na, hda⟩ := pl.isList
  obtain ⟨u, its', rfl⟩ : ∃ u its', its = u :: its' := by
    cases its with
    | nil =>
      have := rv.length
      exact absurd (List.length_eq_zero_iff.mp this) hne
    | cons u r => exact ⟨u, r, rfl⟩
  refine wpAny_list_repr_head (A := A.in1) hg (fun v rest kw hm => listSameRef_of_ne (hca _ _ _ _ hm)) ha hda ?_
  refine wpAny_bind (m := newList []) (wpAny_newObj_type ?_)
  refine wpAny_pure ⟨F.quiet_list_repr_loop _, ?_⟩
  exact rj_loop (P := s.heap.objs.size) hg (fun c hc => hcl c (.tail _ hc)) hf hr hna hlen (frA_new I (Nat.le_refl _)) hs hT hsz _ 0 _ H1 #[] 0 [] rfl (Nat.zero_le _) (inv_pinNew I) e rfl (by simp) hR
theorem RJ.list {a : Addr} {xs : List V} {ts : List Str} (hna : a ∉ as) (hlen : ts.length = xs.length) (hne : xs ≠ []) (hs : SqL X.K H a xs) (hT : ∀ (i : Nat) (x : V), xs[i]? = some x → ∃ t, ts[i]? = some t ∧ RJ X σ H as d x t) :
    RJ X σ H (a :: as) (d + 1) (.ref a) (listText ts) := by
  intro b hb A g E s Q pins H1 u hg hcl hf hr I e r hQ
  obtain rfl : u = Value.ref a := r
  obtain ⟨its, rv, pl, _⟩ := I.list (e.seq hs)
  obtain ⟨oa, ha, hc, na, hda⟩ := pl.isList
  refine wpAny_pyReprUnder_ref (by omega) (wpAny_pyReprObjUnder_twin (twin := "list.__repr__.under") ⟨oa, ha, hc⟩ F.slot_list_repr.toG rfl (by have := hr.un; omega) ?_)
  refine call_twin_plain F.plain_list_repr_under F.entry_list_repr_under F.check_list_repr_under ⟨oa, ha, hc⟩ F.slot_list_repr.toG (F.args_list_repr_1 _) ?_
  exact rj_listAt (R := callEnd _ E) hg hcl hf hr hna hlen hne hs hT hb I e fun s2 H2 u I2 e2 => ⟨⟨_, _, rfl⟩, _, u, rfl, hQ s2 H2 I2 e2⟩
theorem RJ.listNil {a : Addr} (hs : SqL X.K H a []) : RJ X σ H as d (.ref a) "[]" := by
  intro b hb A g E s Q pins H1 u hg hcl hf hr I e r hQ
  obtain rfl : u = Value.ref a := r
  obtain ⟨its, rv, pl, _⟩ := I.list (e.seq hs)
  obtain ⟨oa, ha, hc, na, hda⟩ := pl.isList
  cases rv
  exact wpAny_pyReprUnder_ref (by omega) (wpAny_pyReprObjUnder_list_empty ⟨oa, ha, hc⟩ (by have := hr.un; omega) ha hda ⟨_, _, rfl, hQ _ H1 (I.tok _) (Same.refl _)⟩)
end
end Abv
set_option Elab.async false
set_option linter.all false
set_option maxRecDepth 100000
set_option maxHeartbeats 4000000
/-! ## repr of tuples; repr(x) -/
namespace Abv
open PySem PySem.Spec PyProof.Rows L2
open Builtin Builtin.List
/-- the items' texts -/
inductive RJAll (X : Cx) (σ : L2.St) (H : Hp) (as : List Addr) (d : Nat) : List V → List Str → Prop
  | nil : RJAll X σ H as d [] []
  | cons {x : V} {t : Str} {xs : List V} {ts : List Str} : RJ X σ H as d x t → RJAll X σ H as d xs ts → RJAll X σ H as d (x :: xs) (t :: ts)
theorem RJAll.len {X : Cx} {σ : L2.St} {H : Hp} {as : List Addr} {d : Nat} : ∀ {xs : List V} {ts : List Str}, RJAll X σ H as d xs ts → ts.length = xs.length
  | _, _, .nil => rfl
  | _, _, .cons _ h => by rw [List.length_cons, List.length_cons, h.len]
theorem RJAll.at_ {X : Cx} {σ : L2.St} {H : Hp} {as : List Addr} {d : Nat} : ∀ {xs : List V} {ts : List Str}, RJAll X σ H as d xs ts → ∀ (i : Nat) (x : V), xs[i]? = some x → ∃ t, ts[i]? = some t ∧ RJ X σ H as d x t
  | _, _, .nil, i, x, e => by simp at e
  | _, _, .cons h _, 0, x, e => by
    simp at e
    subst e
    exact ⟨_, rfl, h⟩
  | _, _, .cons _ r, i + 1, x, e => by simpa using r.at_ i x (by simpa using e)
theorem room_guard {d : Nat} {A : Around} {id : String} {args : Args} (hr : Room (d + 1) A) (hg : (Code.builtin id args).isGuard = true) (hu : (A.under (.builtin id args)).units = A.units + 1)
    (c0 : (Code.builtin id args).frames = 0) (c1 : (Code.builtin id args).isCreation = false) (c2 : (Code.builtin id args).isCaller = false) : Room d (A.under (.builtin id args)) := by
  have e2 : (A.under (.builtin id args)).depth = A.depth + 1 := by
    show A.depth + (Code.builtin id args).weight = _
    unfold Code.weight
    rw [c0, c1, c2, hg]
    rfl
  refine ⟨hr.hd, ?_, ?_⟩
  · rw [e2]
    have := hr.dp
    omega
  · rw [hu]
    have := hr.un
    omega
section
variable {X : Cx} {σ : L2.St} {H : Hp} {as : List Addr} {d : Nat} {pins : List (Addr × Obj)}
theorem rj_fold {A : Around} {E : Value → Shared → Prop} {g : List Code} (hg : A.guards = some g) (hcl : ∀ c ∈ as, Clear g c) (hf : A.frames = X.A.frames) (hr : Room d A) : ∀ (us : List Value) (xs : List V) (ts : List Str) (acc : Array Str) (n : Nat) (s : Shared) (H1 : Hp) (Q : (Array Str × Nat) → Shared → Prop),
    Vals xs us → RJAll X σ H as d xs ts → n + piled ts ≤ sizeLine → Inv X pins σ H1 s → Same H H1 → (∀ s2 H2, Inv X pins σ H2 s2 → Same H1 H2 → Q ⟨acc ++ ts.toArray, n + piled ts⟩ s2) →
    wpAny (model X.prog X.w) A (forIn us (⟨acc, n⟩ : (Array Str × Nat)) tupBody) Q E s := by
  intro us
  induction us with
  | nil =>
    intro xs ts acc n s H1 Q rv hT hn I e h
    cases rv
    cases hT
    simp only [List.forIn_nil]
    exact wpAny_pure (by simpa [piled] using h s H1 I (Same.refl _))
  | cons u us ih =>
    intro xs ts acc n s H1 Q rv hT hn I e h
    cases rv with
    | cons ru rv =>
      cases hT with
      | cons hx hl =>
        rename_i x xs' t ts'
        rw [piled_cons] at hn
        rw [List.forIn_cons]
        refine wpAny_bind (wpAny_bind (hx (n + 1) (by omega) A g E s _ pins H1 u hg hcl hf hr I e ru fun s2 H2 I2 e2 => wpAny_pure ?_))
        refine ih xs' ts' (acc.push t) (n + (t.length + 2)) s2 H2 Q rv hl (by omega) I2 (e.trans e2) fun s3 H3 I3 e3 => ?_
        have h1 := h s3 H3 I3 (e2.trans e3)
        have en : n + piled (t :: ts') = n + (t.length + 2) + piled ts' := by rw [piled_cons]; omega
        rw [en] at h1
        simpa using h1
theorem rj_tupAt {a : Addr} {A : Around} {R : Result → Shared → Prop} {xs : List V} {ts : List Str} {b : Nat} {g : List Code} {s : Shared} {H1 : Hp} {id : String} {rest : List Value} (hgu : (Code.builtin id ⟨.ref a :: rest, []⟩).isGuard = true) (hro : Room d (A.under (.builtin id ⟨.ref a :: rest, []⟩)))
    (hg : A.guards = some g) (hcl : ∀ c ∈ a :: as, Clear g c) (hf : A.frames = X.A.frames) (hna : a ∉ as) (hs : SqT X.K H a xs) (hT : RJAll X σ H as d xs ts) (hsz : b + (tupleText ts).length ≤ sizeLine) (I : Inv X pins σ H1 s) (e : Same H H1)
    (hR : ∀ s2 H2 u, Inv X pins σ H2 s2 → Same H1 H2 → R (.ok (.ret (.str (tupleText ts) u))) s2) :
    wpOwn (model X.prog X.w) A (.builtin id ⟨.ref a :: rest, []⟩) (Builtin.tupleReprAt b ⟨[.ref a], []⟩) (fun fin s' => match fin with | .done f => R (.ok f) s' | .again c' => c'.quiet = true ∧ codeAny (model X.prog X.w) A c' R s') (fun e s' => R (.error e) s') s := by
  have hca : Clear g a := hcl a (.head _)
  obtain ⟨its, rv, ⟨o, ha, hc, n, hd⟩, _⟩ := I.tuple (Same.seqT e hs)
  have hl1 := rv.length
  have hl2 := hT.len
  have hlen : ts.length = its.toArray.size := by simp; omega
  have hp := piled_le_tupleText ts
  rw [tuple_repr_tree, tupleReprUnderWay_eq]
  refine wpOwn_bind (wpOwn_stackTailAny hg (tupGuardF_off _) (tupGuardF_pos _) ?_)
  have hn : (g.any fun c => tupGuardF (.ref a) (c, default)) = false := by
    rw [List.any_eq_false]
    intro c hcm
    rw [tupGuardF_of_clear hca c hcm]
    exact Bool.false_ne_true
  rw [hn]
  refine wpOwn_of_wpAny ?_
  show wpAny _ _ (tupleReprRest b (.ref a)) _ _ s
  unfold tupleReprRest Builtin.Tuple.tupleItemsOf
  refine wpAny_bind (wpAny_bind (wpAny_seqItems ha hd (wpAny_pure ?_)))
  rw [← Array.forIn_toList]
  refine wpAny_bind (rj_fold (guards_under_guard hgu hg) (fun c hc => (hcl c (.tail _ hc)).cons (a := a) fun e => hna (e ▸ hc)) (by rw [frames_loop]; exact hf) hro its xs ts _ _ s H1 _ rv hT (by omega) I e fun s2 H2 I2 e2 => ?_)
  refine wpAny_bind (wpAny_mkStr (wpAny_pure ?_) (by have : (tupleText ts).length ≤ sizeLine := by omega
                                                     simpa [tupleText, hlen] using this))
  have h1 := hR _ H2 s2.toks (I2.tok (s2.toks + 1)) e2
  simpa [tupleText, hlen] using h1
theorem RJ.tuple {a : Addr} {xs : List V} {ts : List Str} (hna : a ∉ as) (hs : SqT X.K H a xs) (hT : RJAll X σ H as d xs ts) : RJ X σ H (a :: as) (d + 1) (.ref a) (tupleText ts) := by
  intro b hb A g E s Q pins H1 u hg hcl hf hr I e r hQ
  obtain rfl : u = Value.ref a := r
  obtain ⟨its, rv, ⟨o, ha, hc, n, hd⟩, _⟩ := I.tuple (Same.seqT e hs)
  refine wpAny_pyReprUnder_ref (by omega) (wpAny_pyReprObjUnder_twin (twin := "tuple.__repr__.under") ⟨o, ha, hc⟩ F.slot_tuple_repr rfl (by have := hr.un; omega) ?_)
  refine call_twin_own (F.quiet_tuple_repr_under _) F.entry_tuple_repr_under F.check_tuple_repr_under ⟨o, ha, hc⟩ F.slot_tuple_repr (F.args_tuple_repr_1 _) ?_
  exact rj_tupAt (R := callEnd _ E) (isGuard_tuple_repr_under _) (room_guard hr (isGuard_tuple_repr_under _) (units_under_tuple_repr_under _ _) rfl rfl rfl) hg hcl hf hna hs hT hb I e fun s2 H2 u I2 e2 => ⟨⟨_, _, rfl⟩, _, u, rfl, hQ s2 H2 I2 e2⟩
end
end Abv
set_option Elab.async false
set_option linter.all false
set_option maxRecDepth 100000
set_option maxHeartbeats 4000000
/-! ## repr(x), x plain data -/
namespace Abv
open PySem PySem.Spec PyProof.Rows L2
open Builtin Builtin.List
/-- can be shown: no dict, texts and ints not too large -/
def rprOk (d : PyData) : Prop := d.showable = true ∧ d.hasDict = false ∧ d.shown.length ≤ 10000000 ∧ d.depth ≤ 20
def rRprD (K : PySem.W.Frag) : List V → Hp → VK → Prop := fun xs H Q => ∃ v d, xs = [v] ∧ Dp K H v d ∧ rprOk d ∧ Q (.str d.shown) H
theorem rprD {X : Cx} {K : PySem.W.Frag} {k : Nat} (hg : X.A.guards = some []) (hr : Room k X.A) (hK : X.K = K := by rfl) : CallR X (.builtin "repr") (rRprD K) := by
  subst hK
  intro pins s σ H xs us Q I r h
  obtain ⟨v, d, rfl, hd, ⟨hs, hdi, hz, hdp⟩, q⟩ := h
  obtain ⟨u, rfl, ru⟩ := vals1 r
  obtain ⟨as, rd⟩ := Dp.reads I d v u hd ru
  have hsz : d.shown.length ≤ sizeLine := by rw [sizeLine_eq]; omega
  have hu := hr.un
  cases hd with
  | non =>
    cases ru
    simp only [PyData.shown] at q
    exact PySem.P.repr_of_none ⟨.str _, H, I.tok _, ⟨_, rfl⟩, q⟩
  | bl b =>
    cases ru
    simp only [PyData.shown] at q
    exact PySem.P.repr_of_bool ⟨.str _, H, I.tok _, ⟨_, rfl⟩, q⟩
  | int i =>
    obtain ⟨t, rfl⟩ := ru
    simp only [PyData.shown] at q
    exact PySem.P.repr_of_int (by simpa [PyData.showable] using hs) ⟨.str _, H, I.tok _, ⟨_, rfl⟩, q⟩
  | str x =>
    obtain ⟨t, rfl⟩ := ru
    simp only [PyData.shown] at q hsz
    exact PySem.P.repr_of_str ⟨.str _, H, I.tok _, ⟨_, rfl⟩, q⟩ hsz
  | lst h1 h2 =>
    cases ru
    exact repr_of_reads' rd hs (fun z => by rw [hdi] at z; cases z) hg (by omega) (fun _ _ e => e) (fun h' u tk hk => ⟨.str _, H, I.kept hk, ⟨_, rfl⟩, q⟩) hsz
  | tup h1 h2 =>
    cases ru
    exact repr_of_reads' rd hs (fun z => by rw [hdi] at z; cases z) hg (by omega) (fun _ _ e => e) (fun h' u tk hk => ⟨.str _, H, I.kept hk, ⟨_, rfl⟩, q⟩) hsz
end Abv
set_option Elab.async false
set_option linter.all false
set_option maxRecDepth 100000
set_option maxHeartbeats 4000000
/-! ## repr of ('done', entries) -/
namespace Abv
open PySem PySem.Spec PyProof.Rows L2
open Builtin Builtin.List
section
variable {X : Cx} {σ : L2.St} {H : Hp} {as : List Addr} {d : Nat} {pins : List (Addr × Obj)} {s : Shared}
theorem rj_top {a : Addr} {xs : List V} {ts : List Str} {Q : VK} (I : Inv X pins σ H s) (hg : X.A.guards = some []) (hr : Room (d + 2) X.A) (hna : a ∉ as) (hs : SqT X.K H a xs) (hT : RJAll X σ H as d xs ts) (hsz : (tupleText ts).length ≤ sizeLine)
    (q : ∀ H2, Same H H2 → Q (.str (tupleText ts)) H2) : wpAny (model X.prog X.w) X.A (call (.builtin "repr") [.ref a]) (EP X pins σ Q) X.xe s := by
  obtain ⟨its, rv, ⟨o, ha, hc, n, hd⟩, _⟩ := I.tuple hs
  have hu := hr.un
  have hr1 : Room (d + 1) X.A.in1 := hr.in1
  refine call_repr_slot (by omega) ⟨o, ha, hc⟩ F.slot_tuple_repr ?_
  refine wpAny_call (codeAny_call_builtin_own (Code.quiet_builtin _ (by decide +kernel)) F.entry_tuple_repr (F.slot_tuple_repr.check _ _ _ _ _ _ _ _ ⟨o, ha, hc⟩ (F.args_tuple_repr_1 _) ?_))
  exact rj_tupAt (b := 0) (R := callEnd _ X.xe) (g := []) (isGuard_tuple_repr _) (room_guard hr1 (isGuard_tuple_repr _) (units_under_tuple_repr _ _) rfl rfl rfl) hg (fun c _ => Clear.nil c) rfl hna hs hT (by omega) I (Same.refl H)
    fun s2 H2 u I2 e2 => ⟨_, u, rfl, .str (tupleText ts), H2, I2, ⟨u, rfl⟩, q H2 e2⟩
end
/-- a key and a label -/
abbrev KL2 := V × List Str
def dKL (e : KL2) : Dt := .tup [dOf e.1, .lab e.2]
def tKL (e : KL2) : Str := tupleText [rprV e.1, lrT e.2]
def lstT (ts : List Str) : Str := if ts = [] then "[]" else listText ts
/-- repr(('done', entries)) -/
def doneT (es : List KL2) : Str := tupleText [reprText "done", lstT (es.map tKL)]
theorem menuK_sz : ∀ v ∈ menuK, (rprV v).length ≤ 100 := by decide +kernel
section
variable {X : Cx} {σ : L2.St} {H : Hp}
theorem RJ.atom {v : V} {as : List Addr} {d : Nat} (hv : okV v = true) (hz : (rprV v).length ≤ 100) (hi : ∀ i, v = .int i → i.natAbs < 10 ^ 31) : RJ X σ H as d v (rprV v) := by
  refine RJ.of_is fun u r => ?_
  rcases okV_cases hv with ⟨b, rfl⟩ | ⟨i, rfl⟩ | ⟨x, rfl⟩
  · cases r
    exact ReprIs.bool b
  · obtain ⟨t, rfl⟩ := r
    refine ReprIs.int t ?_
    have h1 := hi i rfl
    by_cases h0 : i.natAbs = 0
    · rw [h0]
      decide
    · exact Nat.lt_of_lt_of_le ((Nat.log2_lt h0).mpr (Nat.lt_of_lt_of_le h1 (show 10 ^ 31 ≤ 2 ^ 110 by decide))) (by decide)
  · obtain ⟨t, rfl⟩ := r
    exact ReprIs.str x t (szl (Nat.le_trans hz (by decide)))
theorem menuK_int : ∀ v ∈ menuK, ∀ i, v = .int i → i.natAbs < 10 ^ 31 := by
  intro v hv i e
  subst e
  have : ∀ v ∈ menuK, (match v with | .int i => decide (i.natAbs < 10 ^ 31) | _ => true) = true := by decide +kernel
  exact of_decide_eq_true (this _ hv)
/-- one entry: its text; where it lies -/
theorem rj_kl {e : KL2} {v : V} {f : Addr} (S : Spc X.K (CL X.K) "__repr__" f) (F : FnR X.prog X.w X.K X.mg X.base CX0 1 f (spRpr X.K)) (hk : e.1 ∈ menuK) (hl : LblOk e.2) (h : Rp X.K (CL X.K) H (dKL e) v) :
    ∃ t al, v = .ref t ∧ SqT X.K H t [e.1, .ref al] ∧ (∃ dx fs, H al = some (.ins (CL X.K) dx fs)) ∧ RJ X σ H [t] 2 v (tKL e) := by
  unfold dKL at h
  unfold Rp at h
  obtain ⟨t, xs, rfl, hT, h⟩ := h
  unfold RpA at h
  obtain ⟨v1, r1, rfl, h1, h⟩ := h
  unfold RpA at h
  obtain ⟨v2, r2, rfl, h2, h⟩ := h
  unfold RpA at h
  subst h
  have hl2 := h2
  unfold Rp at hl2
  obtain ⟨al, dx, tt, rfl, hal, _⟩ := hl2
  rw [okV_inj (menuK_ok _ hk) h1] at hT
  refine ⟨t, al, rfl, hT, ⟨dx, _, hal⟩, RJ.tuple (as := []) (d := 1) (by simp) hT (.cons (RJ.atom (menuK_ok _ hk) (menuK_sz _ hk) (menuK_int _ hk)) (.cons (RJ.lab S F ⟨dx, _, hal⟩ (Nat.le_refl _) fun H1 e1 => ⟨al, e.2, rfl, Rp.same e1 _ _ h2, hl, fun H' e' => ⟨rfl, e'⟩⟩) .nil))⟩
end
end Abv
set_option Elab.async false
set_option linter.all false
set_option maxRecDepth 100000
set_option maxHeartbeats 4000000
/-! ## repr of ('done', entries): the rule -/
namespace Abv
open PySem PySem.Spec PyProof.Rows L2
open Builtin Builtin.List
section
variable {X : Cx} {σ : L2.St} {H : Hp}
theorem RJAll.more {as as' : List Addr} {d : Nat} (hs : ∀ c ∈ as, c ∈ as') : ∀ {xs : List V} {ts : List Str}, RJAll X σ H as d xs ts → RJAll X σ H as' d xs ts
  | _, _, .nil => .nil
  | _, _, .cons h r => .cons (h.more hs) (RJAll.more hs r)
theorem rj_kls {f : Addr} (S : Spc X.K (CL X.K) "__repr__" f) (F : FnR X.prog X.w X.K X.mg X.base CX0 1 f (spRpr X.K)) : ∀ {es : List KL2} {us : List V}, (∀ e ∈ es, e.1 ∈ menuK ∧ LblOk e.2) → RpA X.K (CL X.K) H (es.map dKL) us →
    ∃ as, (∀ c ∈ as, ∃ (k : V) (al dx : Addr) (fs : List (Str × V)), SqT X.K H c [k, .ref al] ∧ H al = some (.ins (CL X.K) dx fs)) ∧ RJAll X σ H as 2 us (es.map tKL)
  | [], us, _, h => by
    unfold List.map RpA at h
    subst h
    exact ⟨[], fun c hc => (by cases hc), .nil⟩
  | e :: es, us, ho, h => by
    rw [List.map_cons] at h
    unfold RpA at h
    obtain ⟨v, r, rfl, h1, h2⟩ := h
    obtain ⟨hk, hl⟩ := ho e (List.mem_cons_self ..)
    obtain ⟨as, a1, a2⟩ := rj_kls S F (fun e he => ho e (List.mem_cons_of_mem _ he)) h2
    obtain ⟨t, al, rfl, b1, ⟨dx, fs, b2⟩, b3⟩ := rj_kl (σ := σ) S F hk hl h1
    refine ⟨t :: as, fun c hc => ?_, .cons (b3.more fun c hc => by rw [List.mem_singleton.mp hc]; exact List.mem_cons_self ..) (a2.more fun c hc => List.mem_cons_of_mem _ hc)⟩
    rcases List.mem_cons.mp hc with rfl | hc
    · exact ⟨_, al, dx, fs, b1, b2⟩
    · exact a1 c hc
theorem tKL_len {e : KL2} (hk : e.1 ∈ menuK) (hl : LblOk e.2) : (tKL e).length ≤ 600 := by
  have h1 := menuK_sz _ hk
  have h2 := lrT_len hl
  unfold tKL tupleText
  rw [strLen_append, strLen_append]
  have h3 := join_length_add [rprV e.1, lrT e.2] (by simp)
  have h4 : piled [rprV e.1, lrT e.2] = (rprV e.1).length + 2 + ((lrT e.2).length + 2) := by
    rw [piled_cons, piled_cons]
    rfl
  have e1 : ((("(" : String) : Str)).length = 1 := rfl
  have e2 : (((if ([rprV e.1, lrT e.2] : List Str).length == 1 then ",)" else ")" : String) : Str)).length = 1 := rfl
  rw [e1, e2]
  omega
def rRprE (K : PySem.W.Frag) : List V → Hp → VK → Prop := fun xs H Q => ∃ (t l : Addr) (us : List V) (es : List KL2), xs = [.ref t] ∧ H t = some (.tup [.str "done", .ref l]) ∧ H l = some (.lst us) ∧ RpA K (CL K) H (es.map dKL) us ∧ (∀ e ∈ es, e.1 ∈ menuK ∧ LblOk e.2) ∧ es.length ≤ 1000 ∧ ∀ H2, Same H H2 → Q (.str (doneT es)) H2
theorem piled_le : ∀ (es : List KL2), (∀ e ∈ es, e.1 ∈ menuK ∧ LblOk e.2) → piled (es.map tKL) ≤ es.length * 602
  | [], _ => by simp [piled]
  | e :: es, h => by
    rw [List.map_cons, piled_cons, List.length_cons]
    have := piled_le es fun x hx => h x (List.mem_cons_of_mem _ hx)
    have := tKL_len (h e (List.mem_cons_self ..)).1 (h e (List.mem_cons_self ..)).2
    omega
theorem listText_le (ts : List Str) : (listText ts).length ≤ piled ts + 2 := by
  show (textFrom 0 "[" ts ++ "]").length ≤ _
  rw [strLen_append]
  have e1 : ((("]" : String) : Str)).length = 1 := rfl
  have e2 : ((("[" : String) : Str)).length = 1 := rfl
  rw [e1]
  cases ts with
  | nil =>
    show ((("[" : String) : Str)).length + 1 ≤ _
    rw [e2]
    omega
  | cons t r =>
    have h := textFrom_length_pos r 1 (((("[" : String) : Str)) ++ (if 0 > 0 then ", " else "" : String) ++ t) (by decide)
    have e3 : (((("[" : String) : Str)) ++ (if 0 > 0 then ", " else "" : String) ++ t).length = 1 + t.length := by
      rw [strLen_append, strLen_append]
      rfl
    show (textFrom 1 (((("[" : String) : Str)) ++ (if 0 > 0 then ", " else "" : String) ++ t) r).length + 1 ≤ _
    rw [h, e3, piled_cons]
    omega
theorem rprE {f : Addr} {K : PySem.W.Frag} (S : Spc K (CL K) "__repr__" f) (F : FnR X.prog X.w X.K X.mg X.base CX0 1 f (spRpr K)) (hg : X.A.guards = some []) (hr : Room 5 X.A) (hK : X.K = K := by rfl) : CallR X (.builtin "repr") (rRprE K) := by
  subst hK
  intro pins s σ H xs us Q I r h
  obtain ⟨t, l, us', es, rfl, ht, hl, hus, ho, hn, q⟩ := h
  obtain rfl := Vals.ref1 r
  obtain ⟨as, a1, a2⟩ := rj_kls (σ := σ) S F ho hus
  have hT : SqT X.K H t [.str "done", .ref l] := .inl (.inl ht)
  have hla : l ∉ as := fun hm => by
    obtain ⟨k, al, dx, fs, b1, b2⟩ := a1 l hm
    obtain ⟨_, _, p1, _⟩ := I.list (SqL.of hl)
    obtain ⟨_, _, ⟨o, p2, p3, _⟩, _⟩ := I.tuple b1
    obtain ⟨o', p4, p5, _⟩ := p1.isList
    rw [p2] at p4
    cases p4
    rw [p3] at p5
    injection p5 with p5
    exact absurd p5 (by decide)
  have hta : t ∉ l :: as := fun hm => by
    rcases List.mem_cons.mp hm with rfl | hm
    · rw [ht] at hl
      cases hl
    · obtain ⟨k, al, dx, fs, b1, b2⟩ := a1 t hm
      have e := I.tuple_inj hT b1
      injection e with _ e
      injection e with e _
      injection e with e
      rw [e, b2] at hl
      cases hl
  have hz : (lstT (es.map tKL)).length ≤ 700000 := by
    unfold lstT
    split
    · decide
    · have h1 := listText_le (es.map tKL)
      have h2 := piled_le es ho
      omega
  have hL : RJ X σ H (l :: as) 3 (.ref l) (lstT (es.map tKL)) := by
    unfold lstT
    split
    · rename_i h0
      have : us' = [] := by
        have := a2.len
        rw [h0] at this
        exact List.length_eq_zero_iff.mp this.symm
      subst this
      exact RJ.listNil (SqL.of hl)
    · rename_i h0
      refine RJ.list hla a2.len (fun z => h0 ?_) (SqL.of hl) a2.at_
      have := a2.len
      rw [z] at this
      exact List.length_eq_zero_iff.mp this
  have hD : RJ X σ H (l :: as) 3 (.str "done") (reprText "done") := RJ.of_is fun u r => by
    obtain ⟨tk, rfl⟩ := r
    exact ReprIs.str _ tk (szl (by decide +kernel))
  refine rj_top I hg hr hta hT (.cons hD (.cons hL .nil)) ?_ q
  unfold tupleText
  rw [strLen_append, strLen_append]
  have h3 := join_length_add [reprText "done", lstT (es.map tKL)] (by simp)
  have h4 : piled [reprText "done", lstT (es.map tKL)] = (reprText "done").length + 2 + ((lstT (es.map tKL)).length + 2) := by
    rw [piled_cons, piled_cons]
    rfl
  have h5 : (reprText "done").length = 6 := by decide +kernel
  have e1 : ((("(" : String) : Str)).length = 1 := rfl
  have e2 : (((if ([reprText "done", lstT (es.map tKL)] : List Str).length == 1 then ",)" else ")" : String) : Str)).length = 1 := rfl
  rw [e1, e2, sizeLine_eq]
  omega
end
end Abv
set_option Elab.async false
set_option linter.all false
set_option maxRecDepth 100000
set_option maxHeartbeats 4000000
/-! ## Promises that hold where no repr runs (guards) -/
namespace Abv
open PySem PySem.Spec PyProof.Rows L2
/-- such a promise -/
def FnRG (P : Program) (w : World) (K : PySem.W.Frag) (mg : Str → Option Value) (base : Heap) (CX : CXT) (k : Nat) (f : Addr) (sp : Sp) : Prop :=
  ∀ (A : Around) (outer : List Env) (s : Shared) (H : Hp) (us : List Value) (vs : List V) (Q : VK) (E : XK), Room k A → A.guards = some [] → Env0 P w K mg base A outer s H → Vals vs us → sp vs H Q E →
    codeAny (model P w) A (.call (.ref f) ⟨us, []⟩) (CR CX outer P w H s Q E) s
structure ClG (CX : CXT) (P : Program) (w : World) (K : PySem.W.Frag) (mg : Str → Option Value) (base : Heap) (k : Nat) (x : Str) (sp : Sp) : Prop where
  ex : ∃ f : Addr, FnRG P w K mg base CX k f sp ∧ mg x = some (.ref f) ∧ PySem.W.keepIn K (.ref f) = true
section
variable {X : Cx} {CX : CXT} {k j : Nat} {x : Str} {sp : Sp} {E : XK} {p pos : Pos} {e : Expr} {es : List Expr} {t : TA}
theorem pe_clg (c : ClG CX X.prog X.w X.K X.mg X.base k x sp) (hgu : X.A.guards = some []) (hr : Room j X.A) (hk : k ≤ j) (hx : Passes CX X E) (hg : Gl X x) (ha : PA X (e :: es) t)
    (hdb : (x == ("__debug__" : Str)) = false := by decide) (he : starEach (e :: es) X.env = (false, eval e X.env) :: starEach es X.env := by rfl) (hpl : (backTo pos (starEach es X.env)).any (·.1) = false := by rfl) :
    PE X (.Call (.Name x p) (e :: es) [] pos) (tCl sp E t) := by
  obtain ⟨f, F, gm, kp⟩ := c.ex
  constructor
  intro pins s σ H Q I h
  refine wpAny_Call_Name_kw (ld_glob I hg gm ?_ hdb)
  refine PySem.W.callWith_K (h₀ := X.base) I.ok.mod.kin kp ?_ he hpl
  refine thn (ha.run pos pins s σ H _ I h) ?_
  rintro us s1 ⟨vs, H1, I1, r, q⟩
  refine ⟨I1.kIn, wpAny_call (codeAny_mono (F X.A X.stack s1 H1 us vs Q E (hr.mono hk) hgu I1.env0 r q) fun r2 s2 hq => ?_)⟩
  cases r2 with
  | error e => exact hx pins σ H1 s1 e s2 I1 hq
  | ok fl =>
    cases fl with
    | ret u => exact I1.after hq
    | next => exact False.elim hq
    | brk => exact False.elim hq
    | cont => exact False.elim hq
end
section
variable {P : Program} {w : World} {K : PySem.W.Frag} {mg : Str → Option Value} {base : Heap}
/-- a def that lets nothing out, by its body; no repr runs around it -/
theorem clG0 {x : Str} {st : Stmt} {N ps : List Str} {k : Nat} {sp : Sp} (F : GF K mg x st []) (S : FnScope N ps (defScope st))
    (hbind : ∀ (kV doc pm : Value) (an : Option Addr) (cdv ct : Value) (us : List Value), us.length = ps.length → bindArgs (PySem.W.fnOf x x (defArgs st) (defBody st) (defScope st) .none kV doc pm an cdv ct) ⟨us, []⟩ = pure (ps.zip us))
    (len : ∀ vs H Q E, sp vs H Q E → vs.length = ps.length)
    (hbody : ∀ (f : Addr) (cdv : Value) (A : Around) (outer : List Env) (s : Shared) (H : Hp) (vs : List V) (Q : VK) (E : XK), A.guards = some [] → Room k (A.deeper (envOfC x (defScope st) s.heap.objs.size f cdv)) → sp vs H Q E →
      ∃ t, PSs (cxOf CX0 P w K mg base N x (defScope st) f cdv A outer s H E).nox (defBody st) t ∧ t { nx := fun _ H' => Q .non H', rt := Q } (start N vs) H) :
    ClG CX0 P w K mg base (k + 1) x sp := by
  obtain ⟨hm, fd, D⟩ := F
  refine ⟨He.ga K x, ?_, hm, D.kp⟩
  have hb := D.bindsN hbind
  obtain ⟨oc, od, dV, kV, doc, pm, an, cdv, ct, osl, rfl, lk, hcd, _, _⟩ := D.ex
  intro A outer s H us vs Q E hr hgu e0 r hs
  have hl := len _ _ _ _ hs
  have b := hb s us (e0.mod.kin.keeps fun b o e => (e0.bs b o e).1) (by rw [List.append_nil, ← r.length]; exact hl)
  rw [List.append_nil] at b
  refine LamX.run_ofS lk hcd S hr e0 b r hl fun hr' => ?_
  obtain ⟨t, h1, h2⟩ := hbody _ cdv A outer s H vs Q E hgu hr' hs
  exact ⟨t, h1.nox, h2⟩
end
end Abv
set_option Elab.async false
set_option linter.all false
set_option maxRecDepth 100000
set_option maxHeartbeats 4000000
/-! ## _law_outcome -/
namespace Abv
open PySem PySem.Spec PyProof.Rows L2
theorem passesL {X : Cx} {W : WX} {E : XK} (tk : Takes X W) (hW : ∀ cls d σ H, σ.length = X.N.length → E cls d H → W cls d σ H) : Passes (L2.CX X.prog X.w) X E :=
  fun _ σ _ _ e s' I c => tk e s' (XE.of_call I (fun cls d H' h => hW cls d σ H' I.len h) c)
/-- what repr(('done', v)) is -/
def DoneR (K : PySem.W.Frag) (H : Hp) (v : V) (Q : VK) : Prop :=
  (∃ d, Dp K H v d ∧ rprOk (.tuple [.str "done", d]) ∧ ∀ H2, Same H H2 → Q (.str (PyData.tuple [.str "done", d]).shown) H2) ∨
  ∃ (l : Addr) (us : List V) (es : List KL2), v = .ref l ∧ H l = some (.lst us) ∧ RpA K (CL K) H (es.map dKL) us ∧ (∀ e ∈ es, e.1 ∈ menuK ∧ LblOk e.2) ∧ es.length ≤ 1000 ∧ ∀ H2, Same H H2 → Q (.str (doneT es)) H2
/-- what is told of an exception -/
def ToldR (K : PySem.W.Frag) (Q : VK) : XK := fun cls dx H' => ∃ (C dd t1 : Addr) (fs : List (Str × V)) (nm : Str) (v : V) (d : PyData), cls = .ref C ∧ XfC K C ∧ PySem.W.findIn K (.ref C) "told_parts" = some none ∧ PySem.W.exmAny K cls [.ref (He.ga K "InvalidError"), .ref (He.ga K "MissingError")] = some true ∧
  dx = some dd ∧ H' dd = some (.xd fs) ∧ fs.lookup ("told_parts" : Str) = some (.ref t1) ∧ H' t1 = some (.tup [.str nm, v]) ∧ Dp K H' v d ∧ rprOk (.tuple [.str nm, d]) ∧ ∀ H2, Same H' H2 → Q (.str (PyData.tuple [.str nm, d]).shown) H2
section
variable {P : Program} {w : World} {K : PySem.W.Frag} {mg : Str → Option Value} {base : Heap}
def spOut (K : PySem.W.Frag) : Sp := fun vs H Q _ => ∃ (x : Addr) (way : Nat) (vl vv vk : V), vs = [.ref x, .int (way : Int), vl, vv, vk] ∧ way ≤ 4 ∧ (∃ dx fs, H x = some (.ins (CT K) dx fs) ∧ fs.lookup ("put_entry" : Str) = none ∧ fs.lookup ("take_entry" : Str) = none ∧ fs.lookup ("entries_at" : Str) = none ∧ fs.lookup ("steps" : Str) = none ∧ fs.lookup ("different" : Str) = none) ∧ ∀ H1, Same H H1 → ∀ (Qm : VK) (Em : XK), (∀ v H2, DoneR K H2 v Q → Qm v H2) → (∀ cls dx H', ToldR K Q cls dx H' → Em cls dx H') →
  (way = 0 → spPut K [.ref x, vl, vv, vk] H1 Qm Em) ∧ (way = 1 → spTake K [.ref x, vl, vv, vk] H1 Qm Em) ∧
  (way = 2 → spEnt K [.ref x, vl, vv] H1 Qm Em) ∧ (way = 3 → spSteps K [.ref x, vl, vv] H1 Qm Em) ∧ (way = 4 → spDif K [.ref x, vl] H1 Qm Em)
abbrev s__law_outcome : Stmt := top 58
abbrev n__law_outcome : List Str := ["_law_tree", "_law_way", "_law_label", "_law_value", "_law_lead", "_law_told", "e"]
theorem sc__law_outcome : FnScope n__law_outcome ["_law_tree", "_law_way", "_law_label", "_law_value", "_law_lead"] (defScope s__law_outcome) := ⟨rfl, rfl, rfl, by decide +kernel, rfl, by decide +kernel, by decide +kernel⟩
end
end Abv
set_option Elab.async false
set_option linter.all false
set_option maxRecDepth 100000
set_option maxHeartbeats 4000000
/-! ## _law_outcome: the walk -/
namespace Abv
open PySem PySem.Spec PyProof.Rows L2
def rOr (r1 r2 : List V → Hp → VK → Prop) : List V → Hp → VK → Prop := fun xs H Q => r1 xs H Q ∨ r2 xs H Q
theorem callR_or {X : Cx} {f : Value} {r1 r2 : List V → Hp → VK → Prop} (h1 : CallR X f r1) (h2 : CallR X f r2) : CallR X f (rOr r1 r2) := fun pins s σ H xs us Q I r h => h.elim (h1 pins s σ H xs us Q I r) (h2 pins s σ H xs us Q I r)
def anyS (W : WX) : XK := fun cls d H' => ∀ σ' : L2.St, σ'.length = 7 → W cls d σ' H'
theorem passA {X : Cx} {W : WX} (tk : Takes X W) (h : X.N.length = 7) : Passes (L2.CX X.prog X.w) X (anyS W) := passesL tk fun cls d σ H e h' => h' σ (e.trans h)
theorem pe_toldK {X : Cx} {K : PySem.W.Frag} {mg : Str → Option Value} {a : Addr} {oe : Obj} {cls : Value} {d : Option Addr} {e : Expr} {te : TE} {p pos : Pos} (T : Tx K mg) (hp : (a, oe) ∈ X.pn) (hz : Zc cls d oe) (hf : ∃ vs, oe.data = .fields vs) (hr : L2H.RoomH 1 X.A) (hg : Gl X "told_error") (ha : PA X [e] (tCons te tNil))
    (hK : X.K = K := by rfl) (hm : X.mg = mg := by rfl) (hs : starEach [e] X.env = (false, eval e X.env) :: starEach [] X.env := by rfl) :
    PE X (.Call (.Name "told_error" p) [e] [] pos) (tTp K a cls d te) := by
  subst hK hm
  exact pe_told T hp hz hf hr hg ha hs
section
variable {P : Program} {w : World} {K : PySem.W.Frag} {mg : Str → Option Value} {base : Heap}
/-- behind a call that ended -/
theorem fin_done {Q : VK} {v : V} {H2 : Hp} {a b c d e : Option V} {z : V} {g : Option V} (hd : DoneR K H2 v Q) : [V.str "done", v].length ≤ sizeLine ∧
    ∀ (p : Addr), H2 p = none → gName 5 (V.ref p) [a, b, c, d, e, some z, g] (upd H2 p (HO.tup [V.str "done", v])) (tRet (tCB (rOr (rRprD K) (rRprE K)) (tCons (tVar 5) tNil)) { nx := fun x H' => Q V.non H', rt := Q }) := by
  refine ⟨szl (Nat.le_of_ble_eq_true rfl), fun p hp => ⟨_, rfl, ?_⟩⟩
  have e0 := Same.new (u := .tup [.str "done", v]) hp
  have hs := upd_same (H := H2) (a := p) (o := .tup [.str "done", v])
  rcases hd with ⟨d, h1, h2, h3⟩ | ⟨l, us, es, rfl, h1, h2, h3, h4, h5⟩
  · exact .inl ⟨_, _, rfl, .tup (SqT.of hs) (.cons (.str _) (.cons (dp_same e0 h1) .nil)), h2, h3 _ e0⟩
  · exact .inr ⟨p, l, us, es, rfl, hs, e0 _ _ h1, RpA.same e0 _ _ h2, h3, h4, fun H3 q => h5 _ (e0.trans q)⟩
theorem fin_told {Q : VK} {cls : Value} {d : Option Addr} {H2 : Hp} (ht : ToldR K Q cls d H2) :
    anyS (wTup K (.ref (He.ga K "InvalidError")) (.ref (He.ga K "MissingError")) 6 (fun a cls d => tAsg (tTp K a cls d (tVar 6)) (gName 5)) { nx := fun σ H => tRet (tCB (rOr (rRprD K) (rRprE K)) (tCons (tVar 5) tNil)) { nx := fun x H' => Q V.non H', rt := Q } σ H, rt := Q }) cls d H2 := by
  obtain ⟨C, dd, t1, fs, nm, v, dt, rfl, xf, nf, ex, rfl, hd, hl, h1, h2, h3, h4⟩ := ht
  intro σ hσ
  refine ⟨ex, fun a ha => ?_⟩
  match σ, hσ with
  | [_, _, _, _, _, _, _], _ => exact ⟨_, rfl, rfl, C, dd, fs, .ref t1, rfl, xf, nf, rfl, hd, hl, _, rfl, .inl ⟨_, _, rfl, .tup (SqT.of h1) (.cons (.str _) (.cons h2 .nil)), h3, h4 _ (Same.refl _)⟩⟩
theorem ok_out (T : Tx K mg) (Y : Ty K) (Z : Xs P K) (S : Spc K (CL K) "__repr__" (He.ma K (CL K) "__repr__")) (mI : mg "InvalidError" = some (.ref (He.ga K "InvalidError"))) (mM : mg "MissingError" = some (.ref (He.ga K "MissingError"))) :
    ClG CX0 P w K mg base 11 "_law_outcome" (spOut K) := by
  have M_put : FnR P w K mg base (L2.CX P w) 5 (He.ma K (CT K) "put_entry") (spPut K) := ok_put T Y Z
  have M_take : FnR P w K mg base (L2.CX P w) 5 (He.ma K (CT K) "take_entry") (spTake K) := ok_take T Y Z
  have M_ent : FnR P w K mg base (L2.CX P w) 9 (He.ma K (CT K) "entries_at") (spEnt K) := ok_ent T Y Z
  have M_steps : FnR P w K mg base (L2.CX P w) 10 (He.ma K (CT K) "steps") (spSteps K) := ok_steps T Y Z
  have M_dif : FnR P w K mg base (L2.CX P w) 10 (He.ma K (CT K) "different") (spDif K) := ok_dif T Y Z
  have FR : FnR P w K mg base CX0 1 (He.ma K (CL K) "__repr__") (spRpr K) := ok_lrepr T Y
  refine clG0 T.f__law_outcome sc__law_outcome (fun _ _ _ _ _ _ us hl => match us, hl with | [_, _, _, _, _], _ => rfl) (fun vs H Q E h => ?_) (fun f cdv A outer s H vs Q E hgu hr h => ?_)
  · obtain ⟨x, way, vl, vv, vk, rfl, _⟩ := h
    rfl
  obtain ⟨x, way, vl, vv, vk, rfl, hw, hx, k⟩ := h
  have hg2 : (A.deeper (envOfC "_law_outcome" (defScope s__law_outcome) s.heap.objs.size f cdv)).guards = some [] := hgu
  refine ⟨_, PSs.nox (pss_cons (ps_set (i := 5) sc__law_outcome.nd rfl (Or.inl rfl) (pe_tup (pa_cons pe_str (pa_cons pe_non pa_nil))))
    (pss_cons (ps_tryTup (i := 5 + 1) (c1 := He.ga K "InvalidError") (c2 := He.ga K "MissingError") rfl rfl sc__law_outcome.nd rfl rfl rfl rfl mI mM (by decide) (by decide) (tb := _)
      (fun W pn xe hp tk po => (pss_one (ps_if (pt_cmpR op_eq (pv 1) pe_int (nomark _)) (pss_one (ps_set (i := 5) sc__law_outcome.nd rfl (Or.inl rfl) (pe_tup (pa_cons pe_str (pa_cons (pe_methR (pv 0) Y.cT Y.put.1 M_put (hr.mono (by decide)) (passA tk rfl) (pa_cons (pv 2) (pa_cons (pv 3) (pa_cons (pv 4) pa_nil)))) pa_nil)))))
        (pss_one (ps_if (pt_cmpR op_eq (pv 1) pe_int (nomark _)) (pss_one (ps_set (i := 5) sc__law_outcome.nd rfl (Or.inl rfl) (pe_tup (pa_cons pe_str (pa_cons (pe_methR (pv 0) Y.cT Y.take.1 M_take (hr.mono (by decide)) (passA tk rfl) (pa_cons (pv 2) (pa_cons (pv 3) (pa_cons (pv 4) pa_nil)))) pa_nil)))))
          (pss_one (ps_if (pt_cmpR op_eq (pv 1) pe_int (nomark _)) (pss_one (ps_set (i := 5) sc__law_outcome.nd rfl (Or.inl rfl) (pe_tup (pa_cons pe_str (pa_cons (pe_methR (pv 0) Y.cT Y.entries.1 M_ent (hr.mono (by decide)) (passA tk rfl) (pa_cons (pv 2) (pa_cons (pv 3) pa_nil))) pa_nil)))))
            (pss_one (ps_if (pt_cmpR op_eq (pv 1) pe_int (nomark _)) (pss_one (ps_set (i := 5) sc__law_outcome.nd rfl (Or.inl rfl) (pe_tup (pa_cons pe_str (pa_cons (pe_methR (pv 0) Y.cT Y.steps.1 M_steps (hr.mono (by decide)) (passA tk rfl) (pa_cons (pv 2) (pa_cons (pv 3) pa_nil))) pa_nil)))))
              (pss_one (ps_set (i := 5) sc__law_outcome.nd rfl (Or.inl rfl) (pe_tup (pa_cons pe_str (pa_cons (pe_methR (pv 0) Y.cT Y.different.1 M_dif (hr.mono (by decide)) (passA tk rfl) (pa_cons (pv 2) pa_nil)) pa_nil))))))))))))))
      (fun a oe cls d pn hz hf => pss_one (ps_set (i := 5) sc__law_outcome.nd rfl (Or.inl rfl) (pe_toldK (K := K) (mg := mg) (a := a) (oe := oe) (cls := cls) (d := d) T (List.mem_cons_self ..) hz hf (L2H.RoomH.mono (k := 10) ⟨hr.dp, hr.un⟩ (by decide)) rfl (pa_cons (pv 6) pa_nil)))))
    (pss_one (ps_ret (pe_callB (id := "repr") (callR_or (rprD (K := K) hg2 (hr.mono (Nat.zero_le _))) (rprE (K := K) S FR hg2 (hr.mono (by decide)))) (by rfl) T.b_repr (by decide +kernel) (pa_cons (pv 5) pa_nil)))))), ?_⟩
  refine ⟨szl (by decide), fun t0 ht0 => ?_⟩
  have e0 := Same.new (u := .tup [.str "done", .non]) ht0
  have k := k _ e0
  obtain ⟨dx, fs, hx1, f1, f2, f3, f4, f5⟩ := hx
  have hx2 := e0 _ _ hx1
  generalize upd H t0 (.tup [.str "done", .non]) = H1 at *
  have cs : way = 0 ∨ way = 1 ∨ way = 2 ∨ way = 3 ∨ way = 4 := by omega
  rcases cs with rfl | rfl | rfl | rfl | rfl
  · refine ⟨_, rfl, rfl, _, rfl, iteT ⟨_, rfl, x, dx, fs, rfl, hx2, f1, _, rfl, _, rfl, _, rfl, ?_⟩⟩
    dsimp only [tNil]
    refine (k _ _ (fun v H2 hd => ?_) (fun cls d H2 ht => ?_)).1 rfl
    · exact fin_done hd
    · exact fin_told ht
  · refine ⟨_, rfl, rfl, _, rfl, iteF ⟨_, rfl, rfl, _, rfl, iteT ⟨_, rfl, x, dx, fs, rfl, hx2, f2, _, rfl, _, rfl, _, rfl, ?_⟩⟩⟩
    dsimp only [tNil]
    refine (k _ _ (fun v H2 hd => ?_) (fun cls d H2 ht => ?_)).2.1 rfl
    · exact fin_done hd
    · exact fin_told ht
  · refine ⟨_, rfl, rfl, _, rfl, iteF ⟨_, rfl, rfl, _, rfl, iteF ⟨_, rfl, rfl, _, rfl, iteT ⟨_, rfl, x, dx, fs, rfl, hx2, f3, _, rfl, _, rfl, ?_⟩⟩⟩⟩
    dsimp only [tNil]
    refine (k _ _ (fun v H2 hd => ?_) (fun cls d H2 ht => ?_)).2.2.1 rfl
    · exact fin_done hd
    · exact fin_told ht
  · refine ⟨_, rfl, rfl, _, rfl, iteF ⟨_, rfl, rfl, _, rfl, iteF ⟨_, rfl, rfl, _, rfl, iteF ⟨_, rfl, rfl, _, rfl, iteT ⟨_, rfl, x, dx, fs, rfl, hx2, f4, _, rfl, _, rfl, ?_⟩⟩⟩⟩⟩
    dsimp only [tNil]
    refine (k _ _ (fun v H2 hd => ?_) (fun cls d H2 ht => ?_)).2.2.2.1 rfl
    · exact fin_done hd
    · exact fin_told ht
  · refine ⟨_, rfl, rfl, _, rfl, iteF ⟨_, rfl, rfl, _, rfl, iteF ⟨_, rfl, rfl, _, rfl, iteF ⟨_, rfl, rfl, _, rfl, iteF ⟨_, rfl, x, dx, fs, rfl, hx2, f5, _, rfl, ?_⟩⟩⟩⟩⟩
    dsimp only [tNil]
    refine (k _ _ (fun v H2 hd => ?_) (fun cls d H2 ht => ?_)).2.2.2.2 rfl
    · exact fin_done hd
    · exact fin_told ht
end
end Abv
set_option Elab.async false
set_option linter.all false
set_option maxRecDepth 100000
set_option maxHeartbeats 4000000
/-! ## Plain: what the list knows and what the tree holds -/
namespace Abv
open PySem PySem.Spec PySem.W PyProof.Rows L2
theorem vt_inj0 : ∀ u ∈ menuU, ∀ v ∈ menuU, decide (vtV u = vtV v) = decide (u = v) := by decide +kernel
theorem vt_inj {u v : V} (hu : u ∈ menuU) (hv : v ∈ menuU) (h : vtV u = vtV v) : u = v := of_decide_eq_true (by rw [← vt_inj0 u hu v hv]; exact decide_eq_true h)
theorem keyOf_inj {u v : V} (hu : u ∈ menuK) (hv : v ∈ menuK) (h : Abv.keyOf u = Abv.keyOf v) : u = v := by rw [← menuK_key u hu, h, menuK_key v hv]
/-- an entry as the tree has it -/
def tK (e : Ent) : Str × Key × Str := (vtV e.v, Abv.keyOf e.k, lt e.lb)
def EntOk (ms : List Str) (e : Ent) : Prop := e.lb ∈ belows ms ∧ e.v ∈ menuV ∧ e.k ∈ menuK
theorem ent_ext {e e' : Ent} (h1 : e.lb = e'.lb) (h2 : e.v = e'.v) (h3 : e.k = e'.k) : e = e' := by
  cases e
  cases e'
  simp only at h1 h2 h3
  rw [h1, h2, h3]
instance : DecidableEq Ent := fun a b => decidable_of_iff (a.lb = b.lb ∧ a.v = b.v ∧ a.k = b.k) ⟨fun h => ent_ext h.1 h.2.1 h.2.2, fun h => by rw [h]; exact ⟨rfl, rfl, rfl⟩⟩
theorem lt_inj' {ms a b : List Str} (hms : LblOk ms) (ha : a ∈ belows ms) (hb : b ∈ belows ms) (e : lt a = lt b) : a = b := lt_inj (belows_ok hms ha).nm (belows_ok hms hb).nm e
theorem tK_inj {ms : List Str} (hms : LblOk ms) {e e' : Ent} (h : EntOk ms e) (h' : EntOk ms e') (q : tK e = tK e') : e = e' := by
  unfold tK at q
  injection q with q1 q2
  injection q2 with q2 q3
  exact ent_ext (lt_inj' hms h.1 h'.1 q3) (vt_inj (menuV_U h.2.1) (menuV_U h'.2.1) q1) (keyOf_inj h.2.2 h'.2.2 q2)
theorem flat_nodup {α β : Type} {f : α → List β} {l : List α} (h1 : ∀ x ∈ l, (f x).Nodup) (h2 : l.Pairwise fun a b => ∀ x ∈ f a, ∀ y ∈ f b, x ≠ y) : (l.flatMap f).Nodup := List.pairwise_flatMap.mpr ⟨h1, h2⟩
section
variable {n1 n2 n3 n4 : Nat} {Vs : List (Str × V)} {Ps : PlL}
theorem trip_nodup (O : TOk n1 n2 n3 n4 Vs Ps) : (trip Ps).Nodup := by
  unfold trip
  refine flat_nodup (fun p hp => flat_nodup (fun q hq => ?_) ?_) ?_
  · refine List.pairwise_map.mpr ((O.kS p hp q hq).imp fun {a b} h e => h ?_)
    injection e with _ e
    injection e
  · refine (List.pairwise_map.mp (O.kI p hp)).imp fun {a b} h x hx y hy e => h ?_
    obtain ⟨s, _, rfl⟩ := List.mem_map.mp hx
    obtain ⟨s', _, rfl⟩ := List.mem_map.mp hy
    injection e with _ e
    injection e
  · refine (List.pairwise_map.mp O.kP).imp fun {a b} h x hx y hy e => h ?_
    obtain ⟨q, _, hx⟩ := List.mem_flatMap.mp hx
    obtain ⟨q', _, hy⟩ := List.mem_flatMap.mp hy
    obtain ⟨s, _, rfl⟩ := List.mem_map.mp hx
    obtain ⟨s', _, rfl⟩ := List.mem_map.mp hy
    injection e
/-- the list and the tree tell the same -/
structure Lk (ms : List Str) (Ps : PlL) (kl : List Ent) : Prop where
  ok : KnOk ms kl
  nd : kl.Nodup
  mem : ∀ z, z ∈ trip Ps ↔ ∃ e ∈ kl, tK e = z
theorem Lk.perm {ms : List Str} {kl : List Ent} (L : Lk ms Ps kl) (O : TOk n1 n2 n3 n4 Vs Ps) (hms : LblOk ms) : (trip Ps).Perm (kl.map tK) := by
  refine (List.perm_ext_iff_of_nodup (trip_nodup O) ?_).mpr fun z => by rw [L.mem z, List.mem_map]
  refine List.pairwise_map.mpr (List.Pairwise.imp_of_mem (fun {a b} ha hb h e => h (tK_inj hms (L.ok a ha) (L.ok b hb) e)) L.nd)
theorem Lk.len {ms : List Str} {kl : List Ent} (L : Lk ms Ps kl) (O : TOk n1 n2 n3 n4 Vs Ps) (hms : LblOk ms) : (trip Ps).length = kl.length := by
  rw [(L.perm O hms).length_eq, List.length_map]
theorem Lk.nil {ms : List Str} : Lk ms [] [] := ⟨fun _ h => (by cases h), List.Pairwise.nil, fun z => ⟨fun h => (by cases h), fun ⟨_, h, _⟩ => (by cases h)⟩⟩
theorem Lk.mem' {ms : List Str} {kl : List Ent} (L : Lk ms Ps kl) (hms : LblOk ms) {e : Ent} (h : EntOk ms e) : tK e ∈ trip Ps ↔ e ∈ kl := by
  rw [L.mem]
  constructor
  · rintro ⟨e', he, q⟩
    rw [← tK_inj hms (L.ok e' he) h q]
    exact he
  · exact fun he => ⟨e, he, rfl⟩
/-- one more -/
theorem Lk.put {ms : List Str} {kl : List Ent} {Ps' : PlL} (L : Lk ms Ps kl) (hms : LblOk ms) {e : Ent} (h : EntOk ms e) (hp : ∀ z, z ∈ trip Ps' ↔ z ∈ trip Ps ∨ z = tK e) : Lk ms Ps' (kl ++ if e ∈ kl then [] else [e]) := by
  by_cases he : e ∈ kl
  · rw [if_pos he, List.append_nil]
    refine ⟨L.ok, L.nd, fun z => (hp z).trans ⟨fun q => ?_, fun q => .inl ((L.mem z).mpr q)⟩⟩
    rcases q with q | rfl
    · exact (L.mem z).mp q
    · exact ⟨e, he, rfl⟩
  · rw [if_neg he]
    refine ⟨fun x hx => ?_, ?_, fun z => (hp z).trans ⟨fun q => ?_, fun q => ?_⟩⟩
    · rcases List.mem_append.mp hx with hx | hx
      · exact L.ok x hx
      · rw [List.mem_singleton.mp hx]
        exact h
    · refine List.pairwise_append.mpr ⟨L.nd, List.pairwise_singleton _ _, fun a ha b hb q => he ?_⟩
      rw [← List.mem_singleton.mp hb, ← q]
      exact ha
    · rcases q with q | rfl
      · obtain ⟨x, hx, e⟩ := (L.mem z).mp q
        exact ⟨x, List.mem_append_left _ hx, e⟩
      · exact ⟨e, List.mem_append_right _ (List.mem_singleton.mpr rfl), rfl⟩
    · obtain ⟨x, hx, q⟩ := q
      rcases List.mem_append.mp hx with hx | hx
      · exact .inl ((L.mem z).mpr ⟨x, hx, q⟩)
      · rw [List.mem_singleton.mp hx] at q
        exact .inr q.symm
/-- one less -/
theorem Lk.take {ms : List Str} {kl : List Ent} {Ps' : PlL} (L : Lk ms Ps kl) (hms : LblOk ms) {e : Ent} (h : EntOk ms e) {A B : List Ent} (hk : kl = A ++ e :: B) (hp : ∀ z, z ∈ trip Ps' ↔ z ∈ trip Ps ∧ z ≠ tK e) : Lk ms Ps' (A ++ B) := by
  subst hk
  have nd := L.nd
  obtain ⟨n1, n2, n3⟩ := List.pairwise_append.mp nd
  obtain ⟨n4, n5⟩ := List.pairwise_cons.mp n2
  have sub : ∀ x, x ∈ A ++ B → x ∈ A ++ e :: B ∧ x ≠ e := fun x hx => by
    rcases List.mem_append.mp hx with hx | hx
    · exact ⟨List.mem_append_left _ hx, n3 x hx e (List.mem_cons_self ..)⟩
    · exact ⟨List.mem_append_right _ (List.mem_cons_of_mem _ hx), (n4 x hx).symm⟩
  refine ⟨fun x hx => L.ok x (sub x hx).1, List.pairwise_append.mpr ⟨n1, n5, fun a ha b hb => n3 a ha b (List.mem_cons_of_mem _ hb)⟩, fun z => (hp z).trans ⟨fun ⟨q1, q2⟩ => ?_, fun ⟨x, hx, q⟩ => ?_⟩⟩
  · obtain ⟨x, hx, rfl⟩ := (L.mem z).mp q1
    refine ⟨x, ?_, rfl⟩
    rcases List.mem_append.mp hx with hx | hx
    · exact List.mem_append_left _ hx
    · rcases List.mem_cons.mp hx with rfl | hx
      · exact absurd rfl q2
      · exact List.mem_append_right _ hx
  · obtain ⟨s1, s2⟩ := sub x hx
    subst q
    exact ⟨(L.mem _).mpr ⟨x, s1, rfl⟩, fun q => s2 (tK_inj hms (L.ok x s1) h q)⟩
/-! ### what is read -/
theorem inner_at {A B : PlL} {p : Str × Addr × InL} {t : Str} (hp : p.1 = t) (hA : ∀ q ∈ A, q.1 ≠ t) : inner (A ++ p :: B) t = p.2.2 := by
  unfold inner
  rw [find_mid (fun q : Str × Addr × InL => q.1) hp hA]
theorem inner_no {t : Str} (h : ∀ q ∈ Ps, q.1 ≠ t) : inner Ps t = [] := by
  unfold inner
  rw [find_no (fun q : Str × Addr × InL => q.1) h]
theorem labsAt_mem (O : TOk n1 n2 n3 n4 Vs Ps) {t s : Str} {v : V} (hv : L2.kV (Abv.keyOf v) = v) : s ∈ labsAt (inner Ps t) v ↔ (t, Abv.keyOf v, s) ∈ trip Ps := by
  rcases split_key (fun p : Str × Addr × InL => p.1) t Ps with ⟨A, p, B, rfl, hp, hA⟩ | hno
  · rw [inner_at hp hA]
    obtain ⟨t', a, L⟩ := p
    simp only at hp
    subst hp
    rcases split_key (fun q : Key × Addr × List Str => L2.kV q.1) v L with ⟨C, q, D, rfl, hq, hC⟩ | hno2
    · unfold labsAt
      rw [find_mid (fun q : Key × Addr × List Str => L2.kV q.1) hq hC]
      obtain ⟨k, b, S⟩ := q
      have ek : k = Abv.keyOf v := kV_inj (hq.trans hv.symm)
      subst ek
      exact (trip_at O).symm
    · unfold labsAt
      rw [find_no (fun q : Key × Addr × List Str => L2.kV q.1) hno2]
      refine ⟨fun h => (by cases h), fun h => ?_⟩
      obtain ⟨p', hp', e1, q, hq, e2, _⟩ := mem_trip.mp h
      have e3 := uniq_key (fun p : Str × Addr × InL => p.1) O.kP hp' e1
      rw [e3] at hq
      exact absurd (by rw [e2]; exact hv) (hno2 q hq)
  · rw [inner_no hno]
    refine ⟨fun h => (by cases h), fun h => ?_⟩
    obtain ⟨p', hp', e1, _⟩ := mem_trip.mp h
    exact absurd e1 (hno p' hp')
theorem keysOf_mem (O : TOk n1 n2 n3 n4 Vs Ps) {t s : Str} {v : V} (hv : L2.kV (Abv.keyOf v) = v) (h : (t, Abv.keyOf v, s) ∈ trip Ps) : v ∈ keysOf (inner Ps t) := by
  obtain ⟨p, hp, e1, q, hq, e2, _⟩ := mem_trip.mp h
  rcases inner_mem (Ps := Ps) (t := t) with e | ⟨p', hp', e3, e4⟩
  · rcases split_key (fun p : Str × Addr × InL => p.1) t Ps with ⟨A, p2, B, rfl, hp2, hA⟩ | hno
    · rw [inner_at hp2 hA] at e ⊢
      have e3 := uniq_key (fun p : Str × Addr × InL => p.1) O.kP hp (e1.trans hp2.symm)
      rw [← e3]
      exact List.mem_map.mpr ⟨q, hq, by rw [e2]; exact hv⟩
    · exact absurd e1 (hno p hp)
  · rcases split_key (fun p : Str × Addr × InL => p.1) t Ps with ⟨A, p2, B, rfl, hp2, hA⟩ | hno
    · rw [inner_at hp2 hA]
      have e3 := uniq_key (fun p : Str × Addr × InL => p.1) O.kP hp (e1.trans hp2.symm)
      rw [← e3]
      exact List.mem_map.mpr ⟨q, hq, by rw [e2]; exact hv⟩
    · exact absurd e1 (hno p hp)
theorem keysOf_ok (O : TOk n1 n2 n3 n4 Vs Ps) {t : Str} : (keysOf (inner Ps t)).Nodup ∧ ∀ v ∈ keysOf (inner Ps t), v ∈ menuK := by
  rcases inner_mem (Ps := Ps) (t := t) with e | ⟨p, hp, _, e⟩
  · rw [e]
    exact ⟨List.Pairwise.nil, fun v h => (by cases h)⟩
  · rw [e]
    refine ⟨List.pairwise_map.mpr ((List.pairwise_map.mp (O.kI p hp)).imp fun {a b} h q => h (kV_inj q)), fun v hv => ?_⟩
    obtain ⟨q, hq, rfl⟩ := List.mem_map.mp hv
    exact O.okK p hp q hq
/-- the entries below, as pairs -/
def prs (L : InL) (ms : List Str) (ks : List V) : List KL2 := ks.flatMap fun v => ((belows ms).filter fun l => decide (lt l ∈ labsAt L v)).map fun l => (v, l)
theorem ents_prs (L : InL) (ms : List Str) (ks : List V) : ents L ms ks = (prs L ms ks).map dKL := by
  unfold ents prs
  rw [List.map_flatMap]
  congr 1
  funext v
  rw [List.map_map]
  rfl
theorem mem_prs {L : InL} {ms : List Str} {ks : List V} {v : V} {l : List Str} : (v, l) ∈ prs L ms ks ↔ v ∈ ks ∧ l ∈ belows ms ∧ lt l ∈ labsAt L v := by
  unfold prs
  rw [List.mem_flatMap]
  constructor
  · rintro ⟨u, hu, h⟩
    obtain ⟨l', hl, e⟩ := List.mem_map.mp h
    injection e with e1 e2
    subst e1 e2
    obtain ⟨h1, h2⟩ := List.mem_filter.mp hl
    exact ⟨hu, h1, of_decide_eq_true h2⟩
  · rintro ⟨h1, h2, h3⟩
    exact ⟨v, h1, List.mem_map.mpr ⟨l, List.mem_filter.mpr ⟨h2, decide_eq_true h3⟩, rfl⟩⟩
end
/-! ### one order -/
def klR (a b : KL2) : Prop := (vle a.1 b.1 ∧ a.1 ≠ b.1) ∨ (a.1 = b.1 ∧ ¬ lbLt b.2 a.2)
theorem klR_as (a b : KL2) (h : klR a b) (h' : klR b a) : a = b := by
  rcases h with ⟨h1, h2⟩ | ⟨h1, h2⟩
  · rcases h' with ⟨h3, _⟩ | ⟨h3, _⟩
    · exact absurd (vle_antisymm _ _ h1 h3) h2
    · exact absurd h3.symm h2
  · rcases h' with ⟨_, h4⟩ | ⟨_, h4⟩
    · exact absurd h1.symm h4
    · exact Prod.ext h1 (lbLt_conn h4 h2)
theorem prs_sorted {L : InL} {ms : List Str} (hms : LblOk ms) {ks : List V} (nd : ks.Nodup) (h : ks.Pairwise vle) : (prs L ms ks).Pairwise klR := by
  unfold prs
  refine List.pairwise_flatMap.mpr ⟨fun v _ => ?_, ?_⟩
  · refine List.pairwise_map.mpr (((belows_sorted hms.rise).filter _).imp fun {a b} q => .inr ⟨rfl, fun z => lbLt_irr _ (lbLt_trans q z)⟩)
  · refine (nd.and h).imp fun {a b} q x hx y hy => ?_
    obtain ⟨l, _, rfl⟩ := List.mem_map.mp hx
    obtain ⟨l', _, rfl⟩ := List.mem_map.mp hy
    exact .inl ⟨q.2, q.1⟩
theorem prs_nodup {L : InL} {ms : List Str} (hms : LblOk ms) {ks : List V} (nd : ks.Nodup) : (prs L ms ks).Nodup := by
  unfold prs
  refine flat_nodup (fun v _ => List.pairwise_map.mpr (((belows_nodup hms.rise).filter _).imp fun {a b} q e => q (by injection e))) (nd.imp fun {a b} q x hx y hy e => q ?_)
  obtain ⟨l, _, rfl⟩ := List.mem_map.mp hx
  obtain ⟨l', _, rfl⟩ := List.mem_map.mp hy
  injection e
def vleB : V → V → Bool
  | .bl a, .bl b => !a || b
  | .bl _, .int _ => true
  | .bl _, .str _ => true
  | .int i, .int j => decide (i ≤ j)
  | .int _, .str _ => true
  | .str a, .str b => decide (sle a b)
  | _, _ => false
theorem vleB_ok {u v : V} (h : vleB u v = true) : vle u v := by
  cases u <;> cases v <;> first | exact True.intro | (cases h; done) | skip
  · rename_i a b
    show a = false ∨ b = true
    revert h
    cases a <;> cases b <;> simp [vleB]
  · rename_i a b
    exact of_decide_eq_true (p := a ≤ b) h
  · rename_i a b
    exact of_decide_eq_true (p := sle a b) h
theorem rk_leK0 : ∀ u ∈ menuK, ∀ v ∈ menuK, (dataLt (rkD v) (rkD u) || vleB u v) = true := by decide +kernel
theorem rk_leV0 : ∀ u ∈ menuV, ∀ v ∈ menuV, (dataLt (rkD v) (rkD u) || vleB u v) = true := by decide +kernel
theorem rk_leK {u v : V} (hu : u ∈ menuK) (hv : v ∈ menuK) (h : dataLt (rkD v) (rkD u) = false) : vle u v := vleB_ok (by have := rk_leK0 u hu v hv; rw [h, Bool.false_or] at this; exact this)
theorem rk_leV {u v : V} (hu : u ∈ menuV) (hv : v ∈ menuV) (h : dataLt (rkD v) (rkD u) = false) : vle u v := vleB_ok (by have := rk_leV0 u hu v hv; rw [h, Bool.false_or] at this; exact this)
theorem rk_ne0 : ∀ u ∈ menuK, ∀ v ∈ menuK, (PyData.eqv (rkD u) (rkD v) == decide (u = v)) = true := by decide +kernel
theorem entK_le {x y : Ent} (hx : x.k ∈ menuK) (hy : y.k ∈ menuK) (h : dataLt (entK y) (entK x) = false) : klR (x.k, x.lb) (y.k, y.lb) := by
  have e0 : entK y = .tuple (rkD y.k :: lbK y.lb) := rfl
  have e1 : entK x = .tuple (rkD x.k :: lbK x.lb) := rfl
  rw [e0, e1, dataLt_tuple] at h
  by_cases hk : x.k = y.k
  · right
    refine ⟨hk, fun z => ?_⟩
    rw [hk] at h
    have e2 : ∀ l : List PyData, keyToksAll (rkD y.k :: l) = (Sum.inl 1 :: keyToks (rkD y.k)) ++ keyToksAll l := fun l => by rw [keyToksAll, List.cons_append]
    rw [e2, e2, lex_pre, lbK_lt] at h
    exact of_decide_eq_false h z
  · left
    have hq : PyData.eqv (rkD y.k) (rkD x.k) = false := by
      have := rk_ne0 y.k hy x.k hx
      rw [beq_iff_eq, decide_eq_false (fun e => hk e.symm)] at this
      exact this
    rw [cmpb_all_no (x := rkD y.k) (y := rkD x.k) (rkD_ok (menuK_ok _ hy) (menuK_ok _ hx)).2 hq] at h
    exact ⟨rk_leK hx hy h, hk⟩
theorem bel_iff {ms hi l : List Str} (hhi : hi ∈ belows ms) (hl : l ∈ belows ms) : isBel l hi = true ↔ l ∈ belows hi := by
  rw [mem_belows]
  unfold isBel
  rw [List.all_eq_true]
  constructor
  · exact fun h => ⟨((mem_belows l).mp hl).1, fun x hx => of_decide_eq_true (h x hx)⟩
  · exact fun h x hx => decide_eq_true (h.2 x hx)
theorem belows_sub {ms hi l : List Str} (hhi : hi ∈ belows ms) (hl : l ∈ belows hi) : l ∈ belows ms := by
  rw [mem_belows] at hhi hl ⊢
  exact ⟨hl.1, fun x hx => hhi.2 x (hl.2 x hx)⟩
section
variable {n1 n2 n3 n4 : Nat} {Vs : List (Str × V)} {Ps : PlL} {ms hi : List Str} {kl : List Ent}
theorem prs_iff (O : TOk n1 n2 n3 n4 Vs Ps) (L : Lk ms Ps kl) (hms : LblOk ms) (hhi : hi ∈ belows ms) {v : V} (hv : v ∈ menuU) {ks : List V} (hk : ks.Perm (keysOf (inner Ps (vtV v)))) (z : KL2) :
    z ∈ prs (inner Ps (vtV v)) hi ks ↔ ∃ e ∈ kl, inQ' hi v e = true ∧ (e.k, e.lb) = z := by
  obtain ⟨k, l⟩ := z
  rw [mem_prs]
  constructor
  · rintro ⟨h1, h2, h3⟩
    have hkm := (keysOf_ok O).2 k (hk.mem_iff.mp h1)
    rw [labsAt_mem O (menuK_key k hkm)] at h3
    obtain ⟨e, he, q⟩ := (L.mem _).mp h3
    unfold tK at q
    injection q with q1 q2
    injection q2 with q2 q3
    obtain ⟨o1, o2, o3⟩ := L.ok e he
    have e1 := vt_inj (menuV_U o2) hv q1
    have e2 := keyOf_inj o3 hkm q2
    have e3 := lt_inj' hms o1 (belows_sub hhi h2) q3
    refine ⟨e, he, ?_, by rw [e2, e3]⟩
    unfold inQ'
    rw [decide_eq_true e1, Bool.and_true, bel_iff hhi o1, e3]
    exact h2
  · rintro ⟨e, he, q, e2⟩
    injection e2 with e2 e3
    subst e2 e3
    obtain ⟨o1, o2, o3⟩ := L.ok e he
    unfold inQ' at q
    obtain ⟨q1, q2⟩ := Bool.and_eq_true_iff.mp q
    have q2 := of_decide_eq_true q2
    subst q2
    have ht : (vtV e.v, Abv.keyOf e.k, lt e.lb) ∈ trip Ps := (L.mem _).mpr ⟨e, he, rfl⟩
    exact ⟨hk.mem_iff.mpr (keysOf_mem O (menuK_key _ o3) ht), (bel_iff hhi o1).mp q1, (labsAt_mem O (menuK_key _ o3)).mpr ht⟩
/-- the tree's entries are the list's -/
theorem prs_eq (O : TOk n1 n2 n3 n4 Vs Ps) (L : Lk ms Ps kl) (hms : LblOk ms) (hhi : hi ∈ belows ms) {v : V} (hv : v ∈ menuU) {ks : List V} (hk : ks.Perm (keysOf (inner Ps (vtV v)))) (hs : ks.Pairwise vle)
    {es : List Ent} (he : es.Perm (kl.filter (inQ' hi v))) (hw : es.Pairwise fun x y => dataLt (entK y) (entK x) = false) : prs (inner Ps (vtV v)) hi ks = es.map fun e => (e.k, e.lb) := by
  have ndk : ks.Nodup := (hk.nodup_iff).mpr (keysOf_ok O).1
  have hhm := belows_ok hms hhi
  have hem : ∀ e ∈ es, e ∈ kl ∧ inQ' hi v e = true := fun e h => List.mem_filter.mp (he.mem_iff.mp h)
  have nde : es.Nodup := (he.nodup_iff).mpr (L.nd.filter _)
  have ndm : (es.map fun e => (e.k, e.lb)).Nodup := by
    refine List.pairwise_map.mpr (List.Pairwise.imp_of_mem (fun {a b} ha hb h q => h ?_) nde)
    injection q with q1 q2
    have f1 := (Bool.and_eq_true_iff.mp (hem a ha).2).2
    have f2 := (Bool.and_eq_true_iff.mp (hem b hb).2).2
    exact ent_ext q2 ((of_decide_eq_true f1).trans (of_decide_eq_true f2).symm) q1
  refine perm_unique klR_as ((List.perm_ext_iff_of_nodup (prs_nodup hhm ndk) ndm).mpr fun z => ?_) (prs_sorted hhm ndk hs) ?_
  · rw [prs_iff O L hms hhi hv hk z, List.mem_map]
    constructor
    · rintro ⟨e, h1, h2, h3⟩
      exact ⟨e, he.mem_iff.mpr (List.mem_filter.mpr ⟨h1, h2⟩), h3⟩
    · rintro ⟨e, h1, h3⟩
      exact ⟨e, (hem e h1).1, (hem e h1).2, h3⟩
  · refine List.pairwise_map.mpr (List.Pairwise.imp_of_mem (fun {a b} ha hb h => ?_) hw)
    exact entK_le (L.ok a (hem a ha).1).2.2 (L.ok b (hem b hb).1).2.2 h
theorem hasB_iff (O : TOk n1 n2 n3 n4 Vs Ps) (L : Lk ms Ps kl) (hms : LblOk ms) (hhi : hi ∈ belows ms) {v : V} (hv : v ∈ menuU) : hasB Ps hi v = true ↔ ∃ e ∈ kl, isBel e.lb hi = true ∧ e.v = v := by
  have key : hasB Ps hi v = true ↔ ∃ z, z ∈ prs (inner Ps (vtV v)) hi (keysOf (inner Ps (vtV v))) := by
    unfold hasB
    rw [ents_prs]
    cases h : prs (inner Ps (vtV v)) hi (keysOf (inner Ps (vtV v))) with
    | nil => exact ⟨fun z => (by cases z), fun ⟨_, z⟩ => (by cases z)⟩
    | cons a r => exact ⟨fun _ => ⟨a, List.mem_cons_self ..⟩, fun _ => rfl⟩
  rw [key]
  constructor
  · rintro ⟨z, hz⟩
    obtain ⟨e, h1, h2, _⟩ := (prs_iff O L hms hhi hv (List.Perm.refl _) z).mp hz
    obtain ⟨h3, h4⟩ := Bool.and_eq_true_iff.mp h2
    exact ⟨e, h1, h3, of_decide_eq_true h4⟩
  · rintro ⟨e, h1, h2, h3⟩
    refine ⟨_, (prs_iff O L hms hhi hv (List.Perm.refl _) (e.k, e.lb)).mpr ⟨e, h1, ?_, rfl⟩⟩
    unfold inQ'
    rw [h2, decide_eq_true h3]
    rfl
/-- the tree's different values are the list's -/
theorem dif_eq (O : TOk n1 n2 n3 n4 Vs Ps) (L : Lk ms Ps kl) (hms : LblOk ms) (hhi : hi ∈ belows ms) {us zs : List V} (hu : us.Perm ((Vs.map (·.2)).filter (hasB Ps hi))) (hs : us.Pairwise vle)
    (hz : zs.Perm (difF hi kl)) (hw : zs.Pairwise fun x y => dataLt (rkD y) (rkD x) = false) : us = zs := by
  have nV : ((Vs.map (·.2)).filter (hasB Ps hi)).Nodup := by
    refine List.Pairwise.filter _ (List.pairwise_map.mpr (List.Pairwise.imp_of_mem (fun {a b} ha hb h q => h ?_) (List.pairwise_map.mp O.kV)))
    rw [(O.okVs a ha).2, (O.okVs b hb).2, q]
  obtain ⟨d1, d2⟩ := difF_ok hi kl
  have hzm : ∀ v ∈ zs, v ∈ menuV := fun v hv => by
    obtain ⟨e, he, _, rfl⟩ := (d2 v).mp (hz.mem_iff.mp hv)
    exact (L.ok e he).2.1
  refine perm_unique vle_antisymm (hu.trans (((List.perm_ext_iff_of_nodup nV d1).mpr fun v => ?_).trans hz.symm)) hs (List.Pairwise.imp_of_mem (fun {a b} ha hb h => rk_leV (hzm a ha) (hzm b hb) h) hw)
  rw [List.mem_filter, d2 v]
  constructor
  · rintro ⟨h1, h2⟩
    obtain ⟨p, hp, rfl⟩ := List.mem_map.mp h1
    exact (hasB_iff O L hms hhi (menuV_U (O.okVs p hp).1)).mp h2
  · rintro ⟨e, h1, h2, rfl⟩
    obtain ⟨o1, o2, o3⟩ := L.ok e h1
    refine ⟨?_, (hasB_iff O L hms hhi (menuV_U o2)).mpr ⟨e, h1, h2, rfl⟩⟩
    have ht : (vtV e.v, Abv.keyOf e.k, lt e.lb) ∈ trip Ps := (L.mem _).mpr ⟨e, h1, rfl⟩
    obtain ⟨p, hp, e1, _⟩ := mem_trip.mp ht
    obtain ⟨r, hr, e2⟩ := List.mem_map.mp (O.cov p hp)
    obtain ⟨r1, r2⟩ := O.okVs r hr
    refine List.mem_map.mpr ⟨r, hr, vt_inj (menuV_U r1) (menuV_U o2) ?_⟩
    rw [← r2, e2, e1]
end
end Abv
set_option Elab.async false
set_option linter.all false
set_option maxRecDepth 100000
set_option maxHeartbeats 4000000
/-! ## Plain: the text of an entry tells the entry -/
namespace Abv
open PySem PySem.Spec PySem.W PyProof.Rows L2 TL
theorem split_uniq {c : Nat} : ∀ {A B R S : List Nat}, c ∉ A → c ∉ B → A ++ c :: R = B ++ c :: S → A = B ∧ R = S
  | [], [], _, _, _, _, h => ⟨rfl, by injection h⟩
  | [], b :: B, R, S, _, h2, h => by
    injection h with h3 _
    exact absurd (List.mem_cons.mpr (Or.inl h3)) h2
  | a :: A, [], R, S, h1, _, h => by
    injection h with h3 _
    exact absurd (List.mem_cons.mpr (Or.inl h3.symm)) h1
  | a :: A, b :: B, R, S, h1, h2, h => by
    injection h with h3 h4
    obtain ⟨h5, h6⟩ := split_uniq (fun z => h1 (List.mem_cons_of_mem _ z)) (fun z => h2 (List.mem_cons_of_mem _ z)) h4
    exact ⟨by rw [h3, h5], h6⟩
theorem fold_flat (f : Nat → List Nat) : ∀ (l : List Nat) (acc : Array Nat), (l.foldl (fun out c => out ++ (f c).toArray) acc).toList = acc.toList ++ l.flatMap f
  | [], acc => by simp
  | c :: l, acc => by
    rw [List.foldl_cons, fold_flat f l, List.flatMap_cons]
    simp
theorem char_plain0 : ∀ c, c < 123 → 97 ≤ c → Builtin.Str.reprChar 39 c = [c] := by decide +kernel
theorem name_quote {m : Str} (h : NameOk m) : reprQuote m = 39 := by
  unfold reprQuote
  have : m.cps.contains 39 = false := by
    cases e : m.cps.contains 39 with
    | false => rfl
    | true =>
      have h2 : (39 : Nat) ∈ m.cps.toList := by simpa using e
      have := (h.2.2 39 h2).1
      omega
  rw [this]
  rfl
theorem tl_rT {m : Str} (h : NameOk m) : tl (reprText m) = 39 :: (tl m ++ [39]) := by
  unfold reprText
  rw [name_quote h]
  show ((m.cps.foldl (fun out c => out ++ (Builtin.Str.reprChar 39 c).toArray) #[39]).push 39).toList = _
  rw [← Array.foldl_toList, Array.toList_push, fold_flat (fun c => Builtin.Str.reprChar 39 c)]
  have : ∀ l : List Nat, (∀ c ∈ l, 97 ≤ c ∧ c ≤ 122) → l.flatMap (fun c => Builtin.Str.reprChar 39 c) = l := by
    intro l
    induction l with
    | nil => intro _; rfl
    | cons c l ih =>
      intro hl
      obtain ⟨h1, h2⟩ := hl c (List.mem_cons_self ..)
      rw [List.flatMap_cons, char_plain0 c (by omega) h1, ih fun x hx => hl x (List.mem_cons_of_mem _ hx)]
      rfl
  rw [this _ h.2.2]
  rfl
/-- quoted names, one behind another -/
def qn (ns : List Str) : List Nat := ns.flatMap fun n => 39 :: (tl n ++ [39])
theorem qn_inj : ∀ {a b : List Str}, (∀ x ∈ a, NameOk x) → (∀ x ∈ b, NameOk x) → qn a = qn b → a = b
  | [], [], _, _, _ => rfl
  | [], b :: r, _, _, h => by cases h
  | a :: r, [], _, _, h => by cases h
  | a :: r, b :: s, ha, hb, h => by
    unfold qn at h
    rw [List.flatMap_cons, List.flatMap_cons, List.cons_append, List.cons_append] at h
    injection h with _ h
    rw [List.append_assoc, List.append_assoc] at h
    obtain ⟨h1, h2⟩ := split_uniq (c := 39) ((ha a (List.mem_cons_self ..)).sign (by omega)) ((hb b (List.mem_cons_self ..)).sign (by omega)) h
    rw [ext_tl h1, qn_inj (fun x hx => ha x (List.mem_cons_of_mem _ hx)) (fun x hx => hb x (List.mem_cons_of_mem _ hx)) h2]
/-- what of a text is of names and their quotes -/
def kp (c : Nat) : Bool := decide (c = 39) || (decide (97 ≤ c) && decide (c ≤ 122))
theorem kp_name {m : Str} (h : NameOk m) : (tl (reprText m)).filter kp = 39 :: (tl m ++ [39]) := by
  rw [tl_rT h, List.filter_eq_self.mpr]
  intro c hc
  rcases List.mem_cons.mp hc with rfl | hc
  · rfl
  · rcases List.mem_append.mp hc with hc | hc
    · obtain ⟨h1, h2⟩ := h.2.2 c hc
      unfold kp
      rw [decide_eq_true h1, decide_eq_true h2]
      simp
    · rw [List.mem_singleton.mp hc]
      rfl
theorem kp_join : ∀ {ns : List Str}, (∀ x ∈ ns, NameOk x) → (joinL [44, 32] ((ns.map reprText).map tl)).filter kp = qn ns
  | [], _ => rfl
  | [a], h => by
    show (tl (reprText a)).filter kp = _
    rw [kp_name (h a (List.mem_cons_self ..))]
    simp [qn]
  | a :: b :: r, h => by
    show (tl (reprText a) ++ ([44, 32] ++ joinL [44, 32] (((b :: r).map reprText).map tl))).filter kp = _
    rw [List.filter_append, List.filter_append, kp_name (h a (List.mem_cons_self ..)), kp_join fun x hx => h x (List.mem_cons_of_mem _ hx)]
    show 39 :: (tl a ++ [39]) ++ ([] ++ qn (b :: r)) = _
    unfold qn
    rw [List.flatMap_cons]
    rfl
theorem mem_joinL {S : List Nat} {c : Nat} : ∀ {ps : List (List Nat)}, c ∈ joinL S ps → c ∈ S ∨ ∃ p ∈ ps, c ∈ p
  | [], h => by cases h
  | [p], h => .inr ⟨p, List.mem_cons_self .., h⟩
  | p :: q :: r, h => by
    have h : c ∈ p ++ (S ++ joinL S (q :: r)) := h
    rcases List.mem_append.mp h with h | h
    · exact .inr ⟨p, List.mem_cons_self .., h⟩
    · rcases List.mem_append.mp h with h | h
      · exact .inl h
      · rcases mem_joinL h with h | ⟨x, hx, h⟩
        · exact .inl h
        · exact .inr ⟨x, List.mem_cons_of_mem _ hx, h⟩
/-- the text of a label, without its end -/
def lbX (ns : List Str) : List Nat := 40 :: (joinL [44, 32] ((ns.map reprText).map tl) ++ if ns.length == 1 then [44] else [])
theorem tl_tup (ts : List Str) : tl (tupleText ts) = 40 :: (joinL [44, 32] (ts.map tl) ++ if ts.length == 1 then [44, 41] else [41]) := by
  unfold tupleText
  rw [tl_append, tl_append, tl_join]
  have e1 : tl ((("(" : String) : Str)) = [40] := by rw [tl_ofString]; rfl
  have e2 : tl (((", " : String) : Str)) = [44, 32] := by rw [tl_ofString]; rfl
  rw [e1, e2]
  split
  · have e3 : tl (((",)" : String) : Str)) = [44, 41] := by rw [tl_ofString]; rfl
    rw [e3]
    rfl
  · have e3 : tl (((")" : String) : Str)) = [41] := by rw [tl_ofString]; rfl
    rw [e3]
    rfl
theorem tl_lb (ns : List Str) : tl (tupleText (ns.map reprText)) = lbX ns ++ [41] := by
  rw [tl_tup]
  unfold lbX
  rw [List.length_map]
  split <;> simp
theorem lbX_no {ns : List Str} (h : ∀ x ∈ ns, NameOk x) : 41 ∉ lbX ns := fun hm => by
  unfold lbX at hm
  rcases List.mem_cons.mp hm with hm | hm
  · cases hm
  rcases List.mem_append.mp hm with hm | hm
  · rcases mem_joinL hm with hm | ⟨p, hp, hm⟩
    · simp at hm
    · obtain ⟨t, ht, rfl⟩ := List.mem_map.mp hp
      obtain ⟨n, hn, rfl⟩ := List.mem_map.mp ht
      rw [tl_rT (h n hn)] at hm
      rcases List.mem_cons.mp hm with hm | hm
      · cases hm
      · rcases List.mem_append.mp hm with hm | hm
        · exact (h n hn).sign (by omega) hm
        · simp at hm
  · split at hm <;> simp at hm
theorem lbX_inj {a b : List Str} (ha : ∀ x ∈ a, NameOk x) (hb : ∀ x ∈ b, NameOk x) (e : lbX a = lbX b) : a = b := by
  refine qn_inj ha hb ?_
  have key : ∀ {ns : List Str}, (∀ x ∈ ns, NameOk x) → (lbX ns).filter kp = qn ns := fun {ns} h => by
    unfold lbX
    have k40 : kp 40 = false := rfl
    rw [List.filter_cons, k40, List.filter_append, kp_join h]
    have : (if (ns.length == 1) = true then [44] else ([] : List Nat)).filter kp = [] := by split <;> rfl
    rw [this]
    simp
  rw [← key ha, ← key hb, e]
/-! ### the text of an entry -/
theorem menuK_rinj0 : ∀ u ∈ menuK, ∀ v ∈ menuK, decide (rprV u = rprV v) = decide (u = v) := by decide +kernel
theorem no44 : ∀ v ∈ menuV, 44 ∉ tl (rprV v) := by decide +kernel
theorem shown_v {v : V} (h : okV v = true) : (toPy (dOf v)).shown = rprV v := by
  rcases okV_cases h with ⟨b, rfl⟩ | ⟨i, rfl⟩ | ⟨s, rfl⟩ <;> simp only [dOf, toPy, PyData.shown, rprV]
theorem shownAll_strs : ∀ ns : List Str, PyData.shownAll (ns.map PyData.str) = ns.map reprText
  | [] => rfl
  | n :: r => by
    rw [List.map_cons, List.map_cons, PyData.shownAll, shownAll_strs r]
    simp only [PyData.shown]
/-- repr of an entry -/
def eT (e : Ent) : Str := tupleText [tupleText (e.lb.map reprText), rprV e.v, rprV e.k]
theorem toPy_dE (e : Ent) : toPy (dE e) = .tuple [strsD e.lb, toPy (dOf e.v), toPy (dOf e.k)] := by
  unfold dE
  simp only [toPy, toPyA, toPy_tS]
theorem shown_E {e : Ent} (hv : okV e.v = true) (hk : okV e.k = true) : (toPy (dE e)).shown = eT e := by
  rw [toPy_dE]
  unfold strsD eT
  simp only [PyData.shown, PyData.shownAll, shownAll_strs, shown_v hv, shown_v hk]
theorem eT_inj {ms : List Str} (hms : LblOk ms) {e e' : Ent} (h : EntOk ms e) (h' : EntOk ms e') (q : eT e = eT e') : e = e' := by
  have q := congrArg tl q
  have key : ∀ e : Ent, tl (eT e) = 40 :: (lbX e.lb ++ 41 :: (44 :: 32 :: (tl (rprV e.v) ++ 44 :: (32 :: (tl (rprV e.k) ++ [41]))))) := fun e => by
    unfold eT
    rw [tl_tup]
    show 40 :: ((tl (tupleText (e.lb.map reprText)) ++ ([44, 32] ++ (tl (rprV e.v) ++ ([44, 32] ++ tl (rprV e.k))))) ++ [41]) = _
    rw [tl_lb]
    simp
  rw [key, key] at q
  injection q with _ q
  have n1 := (belows_ok hms h.1).nm
  have n2 := (belows_ok hms h'.1).nm
  obtain ⟨q1, q2⟩ := split_uniq (lbX_no n1) (lbX_no n2) q
  injection q2 with _ q2
  injection q2 with _ q2
  obtain ⟨q3, q4⟩ := split_uniq (no44 _ h.2.1) (no44 _ h'.2.1) q2
  injection q4 with _ q4
  have q5 := List.append_cancel_right q4
  have v1 := of_decide_eq_true ((menuU_inj _ (menuV_U h.2.1) _ (menuV_U h'.2.1)).symm.trans (decide_eq_true (ext_tl q3)))
  have k1 := of_decide_eq_true ((menuK_rinj0 _ h.2.2 _ h'.2.2).symm.trans (decide_eq_true (ext_tl q5)))
  exact ent_ext (lbX_inj n1 n2 q1) v1 k1
theorem menuU_z : ∀ v ∈ menuV, (rprV v).length ≤ 100 ∧ (toPy (dOf v)).showable = true ∧ (toPy (dOf v)).hasDict = false := by decide +kernel
theorem menuK_z : ∀ v ∈ menuK, (rprV v).length ≤ 100 ∧ (toPy (dOf v)).showable = true ∧ (toPy (dOf v)).hasDict = false := by decide +kernel
theorem tup_len (ts : List Str) : (tupleText ts).length ≤ piled ts + 4 := by
  unfold tupleText
  rw [strLen_append, strLen_append]
  have e1 : ((("(" : String) : Str)).length = 1 := rfl
  have e2 : (((if ts.length == 1 then ",)" else ")" : String) : Str)).length ≤ 2 := by split <;> decide +kernel
  have h3 : (Str.join ", " ts).length ≤ piled ts := by
    cases ts with
    | nil => exact Nat.le_refl _
    | cons a r =>
      have := join_length_add (a :: r) (by simp)
      omega
  omega
theorem piled_names : ∀ {ms : List Str}, (∀ m ∈ ms, NameOk m) → piled (ms.map reprText) ≤ ms.length * 84
  | [], _ => Nat.le_refl _
  | m :: r, h => by
    rw [List.map_cons, piled_cons, List.length_cons]
    have := piled_names fun x hx => h x (List.mem_cons_of_mem _ hx)
    have := rT_len (h m (List.mem_cons_self ..))
    omega
theorem strs_show : ∀ ns : List Str, PyData.showableAll (ns.map PyData.str) = true ∧ PyData.hasDictAll (ns.map PyData.str) = false
  | [] => ⟨rfl, rfl⟩
  | n :: r => by
    obtain ⟨h1, h2⟩ := strs_show r
    exact ⟨by simp [PyData.showableAll, PyData.showable, h1], by simp [PyData.hasDictAll, PyData.hasDict, h2]⟩
theorem rprOk_E {ms : List Str} (hms : LblOk ms) {e : Ent} (h : EntOk ms e) : rprOk (toPy (dE e)) := by
  have ov := menuV_ok _ h.2.1
  have ok := menuK_ok _ h.2.2
  obtain ⟨z1, z2, z3⟩ := menuU_z _ h.2.1
  obtain ⟨y1, y2, y3⟩ := menuK_z _ h.2.2
  obtain ⟨s1, s2⟩ := strs_show e.lb
  have hl := belows_ok hms h.1
  refine ⟨?_, ?_, ?_, ?_⟩
  · rw [toPy_dE]
    simp [PyData.showable, PyData.showableAll, strsD, s1, z2, y2]
  · rw [toPy_dE]
    simp [PyData.hasDict, PyData.hasDictAll, strsD, s2, z3, y3]
  · rw [shown_E ov ok]
    unfold eT
    have h1 := tup_len [tupleText (e.lb.map reprText), rprV e.v, rprV e.k]
    have h2 := tup_len (e.lb.map reprText)
    have h3 := piled_names hl.nm
    have h4 := hl.le
    rw [piled_cons, piled_cons, piled_cons] at h1
    have h5 : piled [] = 0 := rfl
    omega
  · rw [toPy_dE]
    simp [PyData.depth, PyData.depthAll, strsD_depth, okV_depth ov, okV_depth ok]
theorem mem_eT {ms : List Str} (hms : LblOk ms) {e : Ent} (h : EntOk ms e) {kl : List Ent} (hk : KnOk ms kl) : decide (eT e ∈ kl.map eT) = decide (e ∈ kl) := by
  refine decide_eq_decide.mpr ⟨fun q => ?_, fun q => List.mem_map.mpr ⟨e, q, rfl⟩⟩
  obtain ⟨x, hx, q⟩ := List.mem_map.mp q
  rw [← eT_inj hms (hk x hx) h q]
  exact hx
end Abv
set_option Elab.async false
set_option linter.all false
set_option maxRecDepth 100000
set_option maxHeartbeats 4000000
/-! ## What _law_outcome tells -/
namespace Abv
open PySem PySem.Spec PyProof.Rows L2
/-- the three exceptions can be told -/
structure Xo (K : PySem.W.Frag) : Prop where
  xf : ∀ nm ∈ (["InvalidLabel", "InvalidKey", "NoEntry"] : List Str), XfC K (He.ga K nm) ∧ PySem.W.findIn K (.ref (He.ga K nm)) "told_parts" = some none ∧ PySem.W.exmAny K (.ref (He.ga K nm)) [.ref (He.ga K "InvalidError"), .ref (He.ga K "MissingError")] = some true
/-- what is told of an error -/
def tldT (nm : Str) (d : Dt) : Str := (PyData.tuple [.str nm, toPy d]).shown
def donT (d : PyData) : Str := (PyData.tuple [.str "done", d]).shown
section
variable {K : PySem.W.Frag} {H : Hp} {Q : VK} {E : XK}
theorem told_of (X : Xo K) {nm : Str} {d : Dt} (hnm : nm ∈ (["InvalidLabel", "InvalidKey", "NoEntry"] : List Str)) (nb : noB d = true) (ok : rprOk (.tuple [.str nm, toPy d])) (q : ∀ H2, Same H H2 → Q (.str (tldT nm d)) H2)
    {cls : Value} {dx : Option Addr} {H' : Hp} (r : RErr K H nm d cls dx H') : ToldR K Q cls dx H' := by
  obtain ⟨fv, dd, t1, v, rfl, hd, h1, h2, h3, e⟩ := r
  obtain ⟨x1, x2, x3⟩ := X.xf nm hnm
  exact ⟨_, dd, t1, _, nm, v, toPy d, rfl, x1, x2, x3, hd, h1, rfl, h2, Rp.dp _ _ nb h3, ok, fun H2 e2 => q H2 (e.trans e2)⟩
theorem done_of {v : V} {d : PyData} (h : Dp K H v d) (ok : rprOk (.tuple [.str "done", d])) (q : ∀ H2, Same H H2 → Q (.str (donT d)) H2) : DoneR K H v Q := .inl ⟨d, h, ok, q⟩
theorem ok_doneN : rprOk (.tuple [.str "done", .none]) := ⟨by decide +kernel, by decide +kernel, by decide +kernel, by decide +kernel⟩
theorem tree_fld {x dv dp : Addr} {Vs : List (Str × V)} {Ps : PlL} (T : TreeAt K H x dv dp Vs Ps) : ∃ dx fs, H x = some (.ins (CT K) dx fs) ∧ fs.lookup ("put_entry" : Str) = none ∧ fs.lookup ("take_entry" : Str) = none ∧ fs.lookup ("entries_at" : Str) = none ∧ fs.lookup ("steps" : Str) = none ∧ fs.lookup ("different" : Str) = none := by
  obtain ⟨dx, h⟩ := T.ins
  exact ⟨dx, _, h, rfl, rfl, rfl, rfl, rfl⟩
theorem ent_none {l : List Str} {vv vk : V} (hv : vv ∈ menuV) (hk : vk ∈ menuK) : entErr (.lab l) (dOf vv) (dOf vk) = none := by
  have h1 : ∀ v ∈ menuV, isAny (dOf v) = true := by decide +kernel
  have h2 : ∀ v ∈ menuK, isKey (dOf v) = true := by decide +kernel
  unfold entErr
  rw [if_neg (by simp [isLab]), if_neg (by rw [h1 _ hv]; simp), if_neg (by rw [h2 _ hk]; simp)]
theorem pln_ok {v : V} (h : okV v = true) : pln (dOf v) = true := (Bool.and_eq_true_iff.mp h).2
theorem any_ok {v : V} (h : okV v = true) : isAny (dOf v) = true := (Bool.and_eq_true_iff.mp h).1
variable {x dv dp : Addr} {Vs : List (Str × V)} {Ps : PlL} {n : Nat} {l : List Str} {vl vv vk : V}
theorem out_put (TA : TreeAt K H x dv dp Vs Ps) (TO : TOk n n n n Vs Ps) (hn : n < 60) (hl : Rp K (CL K) H (.lab l) vl) (lo : LblOk l) (hv : vv ∈ menuV) (hk : vk ∈ menuK)
    (q : ∀ H' Vs' Ps', DkFr H H' → TreeAt K H' x dv dp Vs' Ps' → TOk (n + 1) (n + 1) (n + 1) (n + 1) Vs' Ps' → (∀ z, z ∈ trip Ps' ↔ z ∈ trip Ps ∨ z = (vtV vv, Abv.keyOf vk, lt l)) → Q (.str (donT .none)) H') :
    spOut K [.ref x, .int 0, vl, vv, vk] H Q E := by
  refine ⟨x, 0, vl, vv, vk, rfl, by decide, tree_fld TA, fun H1 e1 Qm Em hQ hE => ⟨fun _ => ?_, fun z => (by cases z), fun z => (by cases z), fun z => (by cases z), fun z => (by cases z)⟩⟩
  have ov := menuV_ok _ hv
  have ok := menuK_ok _ hk
  refine ⟨x, dv, dp, .lab l, dOf vv, dOf vk, vl, vv, vk, Vs, Ps, n, rfl, Rp.same e1 _ _ hl, okV_rp ov, okV_rp ok, rfl, pln_ok ov, pln_ok ok, TA.same e1, TO, hn, fun _ => ⟨hv, hk, rfl, rfl, l, rfl, lo⟩, ?_⟩
  rw [ent_none hv hk]
  exact fun H' Vs' Ps' d1 T1 O1 m1 => hQ _ _ (done_of .non ok_doneN fun H2 e2 => q H2 Vs' Ps' ((DkFr.of e1).trans (d1.trans (DkFr.of e2))) (T1.same e2) O1 (m1 l rfl))
theorem out_take (X : Xo K) (TA : TreeAt K H x dv dp Vs Ps) (TO : TOk n n n n Vs Ps) (hn : n < 60) (hl : Rp K (CL K) H (.lab l) vl) (lo : LblOk l) (hv : vv ∈ menuV) (hk : vk ∈ menuK) (okk : rprOk (.tuple [.str "NoEntry", toPy (dOf vk)]))
    (q1 : (vtV vv, Abv.keyOf vk, lt l) ∈ trip Ps → ∀ H' Ps', DkFr H H' → TreeAt K H' x dv dp Vs Ps' → TOk n n n n Vs Ps' → (∀ z, z ∈ trip Ps' ↔ z ∈ trip Ps ∧ z ≠ (vtV vv, Abv.keyOf vk, lt l)) → Q (.str (donT .none)) H')
    (q2 : (vtV vv, Abv.keyOf vk, lt l) ∉ trip Ps → ∀ H', Same H H' → Q (.str (tldT "NoEntry" (dOf vk))) H') : spOut K [.ref x, .int 1, vl, vv, vk] H Q E := by
  refine ⟨x, 1, vl, vv, vk, rfl, by decide, tree_fld TA, fun H1 e1 Qm Em hQ hE => ⟨fun z => (by cases z), fun _ => ?_, fun z => (by cases z), fun z => (by cases z), fun z => (by cases z)⟩⟩
  have ov := menuV_ok _ hv
  have ok := menuK_ok _ hk
  refine ⟨x, dv, dp, .lab l, dOf vv, dOf vk, vl, vv, vk, Vs, Ps, n, rfl, Rp.same e1 _ _ hl, okV_rp ov, okV_rp ok, rfl, pln_ok ov, pln_ok ok, TA.same e1, TO, hn, fun _ => ⟨hv, hk, rfl, rfl, l, rfl, lo⟩, ?_⟩
  rw [ent_none hv hk]
  rintro ms ⟨⟩
  refine ⟨fun hm H' Ps' d1 T1 O1 m1 => hQ _ _ (done_of .non ok_doneN fun H2 e2 => q1 hm H2 Ps' ((DkFr.of e1).trans (d1.trans (DkFr.of e2))) (T1.same e2) O1 m1), fun hm cls dx H' r => hE _ _ _ (told_of X (by decide +kernel) ?_ okk (fun H2 e2 => q2 hm H2 (e1.trans e2)) r)⟩
  rcases okV_cases ok with ⟨b, rfl⟩ | ⟨i, rfl⟩ | ⟨s, rfl⟩ <;> rfl
/-- the way's error -/
def wErr (way : Nat) (dl dv dk : Dt) : Option (Str × Dt) := if way ≤ 1 then entErr dl dv dk else if way ≤ 3 then ent2Err dl dv else lblErr dl
theorem out_err (X : Xo K) (TA : TreeAt K H x dv dp Vs Ps) (TO : TOk n n n n Vs Ps) (hn : n < 60) {way : Nat} (hw : way ≤ 4) {dl d2 dk d : Dt} {nm : Str} (hl : Rp K (CL K) H dl vl) (h2 : Rp K (CL K) H d2 vv) (hk : Rp K (CL K) H dk vk) (al : lblArg dl = true) (p2 : pln d2 = true) (pk : pln dk = true)
    (lo : ∀ ms, dl = .lab ms → LblOk ms) (he : wErr way dl d2 dk = some (nm, d)) (hnm : nm ∈ (["InvalidLabel", "InvalidKey", "NoEntry"] : List Str)) (nb : noB d = true) (ok : rprOk (.tuple [.str nm, toPy d])) (q : ∀ H', Same H H' → Q (.str (tldT nm d)) H') :
    spOut K [.ref x, .int (way : Int), vl, vv, vk] H Q E := by
  have hP : ∀ p ∈ Ps, p.2.2.length < 60 ∧ ∀ q ∈ p.2.2, kV q.1 ∈ menuK := fun p hp => ⟨Nat.lt_of_le_of_lt (TO.nI p hp) hn, TO.okK p hp⟩
  refine ⟨x, way, vl, vv, vk, rfl, hw, tree_fld TA, fun H1 e1 Qm Em hQ hE => ?_⟩
  have hE' : ∀ cls dx H', RErr K H1 nm d cls dx H' → Em cls dx H' := fun cls dx H' r => hE _ _ _ (told_of X hnm nb ok (fun H2 e2 => q H2 (e1.trans e2)) r)
  have T1 := TA.same e1
  have hl := Rp.same e1 _ _ hl
  have h2 := Rp.same e1 _ _ h2
  have hk := Rp.same e1 _ _ hk
  refine ⟨fun z => ?_, fun z => ?_, fun z => ?_, fun z => ?_, fun z => ?_⟩ <;> subst z
  · have he : entErr dl d2 dk = some (nm, d) := he
    refine ⟨x, dv, dp, dl, d2, dk, vl, vv, vk, Vs, Ps, n, rfl, hl, h2, hk, al, p2, pk, T1, TO, hn, fun z => (by rw [he] at z; cases z), ?_⟩
    rw [he]
    exact hE'
  · have he : entErr dl d2 dk = some (nm, d) := he
    refine ⟨x, dv, dp, dl, d2, dk, vl, vv, vk, Vs, Ps, n, rfl, hl, h2, hk, al, p2, pk, T1, TO, hn, fun z => (by rw [he] at z; cases z), ?_⟩
    rw [he]
    exact hE'
  · have he : ent2Err dl d2 = some (nm, d) := he
    refine ⟨x, dp, dl, d2, vl, vv, Ps, rfl, hl, h2, al, p2, T1.tp, hP, fun z => (by rw [he] at z; cases z), ?_⟩
    rw [he]
    exact hE'
  · have he : ent2Err dl d2 = some (nm, d) := he
    refine ⟨x, dp, dl, d2, vl, vv, Ps, rfl, hl, h2, al, p2, T1.tp, hP, fun z => (by rw [he] at z; cases z), ?_⟩
    rw [he]
    exact hE'
  · have he : lblErr dl = some (nm, d) := he
    refine ⟨x, dv, dp, dl, vl, Vs, Ps, n, rfl, hl, al, T1, TO, hn, lo, ?_⟩
    rw [he]
    exact hE'
theorem ent2_none {vv : V} (hv : okV vv = true) : ent2Err (.lab l) (dOf vv) = none := by
  unfold ent2Err
  rw [if_neg (by simp [isLab]), if_neg (by rw [any_ok hv]; simp)]
/-- the entries, sorted -/
def enK (L : InL) (l : List Str) (ks : List V) : List KL2 := prs L l ks
theorem out_ent (TA : TreeAt K H x dv dp Vs Ps) (TO : TOk n n n n Vs Ps) (hn : n < 60) (hl : Rp K (CL K) H (.lab l) vl) (lo : LblOk l) (hv : okV vv = true) (hsz : ∀ ks, ks.Perm (keysOf (inner Ps (vtV vv))) → (prs (inner Ps (vtV vv)) l ks).length ≤ 1000)
    (q : ∀ H' ks, Same H H' → ks.Perm (keysOf (inner Ps (vtV vv))) → ks.Pairwise vle → Q (.str (doneT (prs (inner Ps (vtV vv)) l ks))) H') : spOut K [.ref x, .int 2, vl, vv, vk] H Q E := by
  have hP : ∀ p ∈ Ps, p.2.2.length < 60 ∧ ∀ q ∈ p.2.2, kV q.1 ∈ menuK := fun p hp => ⟨Nat.lt_of_le_of_lt (TO.nI p hp) hn, TO.okK p hp⟩
  refine ⟨x, 2, vl, vv, vk, rfl, by decide, tree_fld TA, fun H1 e1 Qm Em hQ hE => ⟨fun z => (by cases z), fun z => (by cases z), fun _ => ?_, fun z => (by cases z), fun z => (by cases z)⟩⟩
  refine ⟨x, dp, .lab l, dOf vv, vl, vv, Ps, rfl, Rp.same e1 _ _ hl, okV_rp hv, rfl, pln_ok hv, (TA.same e1).tp, hP, fun _ => ⟨hv, rfl, l, rfl, lo⟩, ?_⟩
  rw [ent2_none hv]
  rintro ms ⟨⟩ H' p ks ys e2 np hp k1 k2 hy
  rw [ents_prs] at hy
  refine hQ _ _ (.inr ⟨p, ys, _, rfl, hp, hy, fun e he => ?_, hsz ks k1, fun H2 e3 => q H2 ks (e1.trans (e2.trans e3)) k1 k2⟩)
  obtain ⟨v, m⟩ := e
  obtain ⟨m1, m2, _⟩ := mem_prs.mp he
  exact ⟨(keysOf_ok TO).2 v (k1.mem_iff.mp m1), belows_ok lo m2⟩
theorem rprOk_int {i : Int} (h0 : 0 ≤ i) (h : i ≤ 100000) : rprOk (.tuple [.str "done", .int i]) := by
  have hlog : i.natAbs.log2 < 64 := by
    by_cases z : i.natAbs = 0
    · rw [z]
      decide
    · exact (Nat.log2_lt z).mpr (by omega)
  have hs : (Str.ofString (toString i)).length ≤ 100 := by
    obtain ⟨m, rfl⟩ := Int.eq_ofNat_of_zero_le h0
    have : ∀ m : Nat, m ≤ 100000 → (Str.ofString (toString (m : Int))).length ≤ 100 := by
      intro m hm
      have h1 : (Str.ofString (toString (m : Int))).length = (toString m).toList.length := by
        rw [TL.len_tl, TL.tl_ofString, List.length_map]
        rfl
      rw [h1]
      show (String.ofList (Nat.toDigits 10 m)).toList.length ≤ 100
      have h3 : (Nat.toDigits 10 m).length ≤ 100 := by
        exact (Nat.length_toDigits_le_iff (b := 10) (n := m) (k := 100) (by decide) (by decide)).mpr (Nat.lt_of_le_of_lt hm (by decide))
      simpa using h3
    exact this m (by omega)
  refine ⟨by simp [PyData.showable, PyData.showableAll]; omega, by simp [PyData.hasDict, PyData.hasDictAll], ?_, by simp [PyData.depth, PyData.depthAll]⟩
  simp only [PyData.shown, PyData.shownAll]
  have h1 := tup_len [reprText "done", toString i]
  rw [piled_cons, piled_cons] at h1
  have h2 : (reprText "done").length = 6 := by decide +kernel
  have h3 : piled [] = 0 := rfl
  have h4 : ((toString i : String) : Str).length ≤ 100 := hs
  omega
theorem out_steps (TA : TreeAt K H x dv dp Vs Ps) (TO : TOk n n n n Vs Ps) (hn : n < 60) (hl : Rp K (CL K) H (.lab l) vl) (lo : LblOk l) (hv : okV vv = true) (hsz : ∀ ks, ks.Perm (keysOf (inner Ps (vtV vv))) → (prs (inner Ps (vtV vv)) l ks).length ≤ 1000)
    (q : ∀ H' ks, Same H H' → ks.Perm (keysOf (inner Ps (vtV vv))) → ks.Pairwise vle → Q (.str (donT (.int (1 + ((prs (inner Ps (vtV vv)) l ks).length : Int))))) H') : spOut K [.ref x, .int 3, vl, vv, vk] H Q E := by
  have hP : ∀ p ∈ Ps, p.2.2.length < 60 ∧ ∀ q ∈ p.2.2, kV q.1 ∈ menuK := fun p hp => ⟨Nat.lt_of_le_of_lt (TO.nI p hp) hn, TO.okK p hp⟩
  refine ⟨x, 3, vl, vv, vk, rfl, by decide, tree_fld TA, fun H1 e1 Qm Em hQ hE => ⟨fun z => (by cases z), fun z => (by cases z), fun z => (by cases z), fun _ => ?_, fun z => (by cases z)⟩⟩
  refine ⟨x, dp, .lab l, dOf vv, vl, vv, Ps, rfl, Rp.same e1 _ _ hl, okV_rp hv, rfl, pln_ok hv, (TA.same e1).tp, hP, fun _ => ⟨hv, rfl, l, rfl, lo⟩, ?_⟩
  rw [ent2_none hv]
  rintro ms ⟨⟩ H' ks e2 k1 k2
  rw [ents_prs, List.length_map]
  have := hsz ks k1
  exact hQ _ _ (done_of (.int _) (rprOk_int (by omega) (by omega)) fun H2 e3 => q H2 ks (e1.trans (e2.trans e3)) k1 k2)
/-- values as data -/
def vsD (us : List V) : PyData := .list (us.map fun v => toPy (dOf v))
theorem dp_vals {H : Hp} : ∀ {us : List V}, (∀ v ∈ us, okV v = true) → DpAll K H us (us.map fun v => toPy (dOf v))
  | [], _ => .nil
  | v :: us, h => .cons (okV_dp (h v (List.mem_cons_self ..))) (dp_vals fun u hu => h u (List.mem_cons_of_mem _ hu))
theorem vs_show : ∀ {us : List V}, (∀ v ∈ us, v ∈ menuV) → PyData.showableAll (us.map fun v => toPy (dOf v)) = true ∧ PyData.hasDictAll (us.map fun v => toPy (dOf v)) = false ∧ PyData.depthAll (us.map fun v => toPy (dOf v)) ≤ 1 ∧ piled (PyData.shownAll (us.map fun v => toPy (dOf v))) ≤ us.length * 102
  | [], _ => ⟨rfl, rfl, by decide, Nat.le_refl _⟩
  | v :: us, h => by
    obtain ⟨h1, h2, h3, h4⟩ := vs_show fun u hu => h u (List.mem_cons_of_mem _ hu)
    obtain ⟨z1, z2, z3⟩ := menuU_z _ (h v (List.mem_cons_self ..))
    have ov := menuV_ok _ (h v (List.mem_cons_self ..))
    refine ⟨by simp [PyData.showableAll, h1, z2], by simp [PyData.hasDictAll, h2, z3], ?_, ?_⟩
    · simp only [List.map_cons, PyData.depthAll, okV_depth ov]
      omega
    · rw [List.map_cons, PyData.shownAll, shown_v ov, piled_cons, List.length_cons]
      omega
theorem rprOk_vs {us : List V} (h : ∀ v ∈ us, v ∈ menuV) (hl : us.length ≤ 1000) : rprOk (vsD us) ∧ rprOk (.tuple [.str "done", vsD us]) := by
  obtain ⟨h1, h2, h3, h4⟩ := vs_show h
  have hL : (vsD us).shown.length ≤ us.length * 102 + 2 := by
    unfold vsD
    simp only [PyData.shown]
    have := listText_le (PyData.shownAll (us.map fun v => toPy (dOf v)))
    omega
  have hd : (vsD us).depth ≤ 2 := by
    unfold vsD
    simp only [PyData.depth]
    omega
  have hs : (vsD us).showable = true := by simp [vsD, PyData.showable, h1]
  have hh : (vsD us).hasDict = false := by simp [vsD, PyData.hasDict, h2]
  refine ⟨⟨hs, hh, by omega, by omega⟩, by simp [PyData.showable, PyData.showableAll, hs], by simp [PyData.hasDict, PyData.hasDictAll, hh], ?_, ?_⟩
  · simp only [PyData.shown, PyData.shownAll]
    have h1 := tup_len [reprText "done", (vsD us).shown]
    rw [piled_cons, piled_cons] at h1
    have h2 : (reprText "done").length = 6 := by decide +kernel
    have h3 : piled [] = 0 := rfl
    omega
  · simp only [PyData.depth, PyData.depthAll]
    omega
theorem dif_menu {us : List V} (TO : TOk n n n n Vs Ps) (hu : us.Perm ((Vs.map (·.2)).filter (hasB Ps l))) : (∀ v ∈ us, v ∈ menuV) ∧ us.length ≤ n := by
  refine ⟨fun v hv => ?_, ?_⟩
  · obtain ⟨p, hp, rfl⟩ := List.mem_map.mp (List.mem_filter.mp (hu.mem_iff.mp hv)).1
    exact (TO.okVs p hp).1
  · rw [hu.length_eq]
    have h1 := List.length_filter_le (hasB Ps l) (Vs.map (·.2))
    rw [List.length_map] at h1
    exact Nat.le_trans h1 TO.nV
theorem out_dif (TA : TreeAt K H x dv dp Vs Ps) (TO : TOk n n n n Vs Ps) (hn : n < 60) (hl : Rp K (CL K) H (.lab l) vl) (lo : LblOk l)
    (q : ∀ H' us, Same H H' → us.Perm ((Vs.map (·.2)).filter (hasB Ps l)) → us.Pairwise vle → Q (.str (donT (vsD us))) H') : spOut K [.ref x, .int 4, vl, vv, vk] H Q E := by
  refine ⟨x, 4, vl, vv, vk, rfl, by decide, tree_fld TA, fun H1 e1 Qm Em hQ hE => ⟨fun z => (by cases z), fun z => (by cases z), fun z => (by cases z), fun z => (by cases z), fun _ => ?_⟩⟩
  refine ⟨x, dv, dp, .lab l, vl, Vs, Ps, n, rfl, Rp.same e1 _ _ hl, rfl, TA.same e1, TO, hn, fun ms e => (by cases e; exact lo), ?_⟩
  show ∀ ms, _
  rintro ms ⟨⟩ H' p us e2 np hp u1 u2
  obtain ⟨m1, m2⟩ := dif_menu TO u1
  exact hQ _ _ (done_of (.lst (SqL.of hp) (dp_vals fun v hv => menuV_ok _ (m1 v hv))) (rprOk_vs m1 (by omega)).2 fun H2 e3 => q H2 us (e1.trans (e2.trans e3)) u1 u2)
end
end Abv
set_option Elab.async false
set_option linter.all false
set_option maxRecDepth 100000
set_option maxHeartbeats 4000000
/-! ## The state of a script -/
namespace Abv
open PySem PySem.Spec PyProof.Rows L2 LamX
/-- all stays but the lists in D and the dicts -/
def CF (D : List Addr) (H H' : Hp) : Prop := ∀ b o, H b = some o → b ∉ D → (∀ kvs, o ≠ .dK kvs) → H' b = some o
theorem CF.refl (D : List Addr) (H : Hp) : CF D H H := fun _ _ h _ _ => h
theorem CF.trans {D : List Addr} {H H1 H2 : Hp} (a : CF D H H1) (b : CF D H1 H2) : CF D H H2 := fun c o h n m => b c o (a c o h n m) n m
theorem CF.of {D : List Addr} {H H' : Hp} (e : Same H H') : CF D H H' := fun b o h _ _ => e b o h
theorem CF.sb {D : List Addr} {r : Addr} {H H' : Hp} (e : SB r H H') (hr : r ∈ D) : CF D H H' := fun b o h n _ => e b o h fun z => n (by rw [z]; exact hr)
theorem CF.dk {D : List Addr} {H H' : Hp} (e : DkFr H H') : CF D H H' := fun b o h _ m => e b o h m
theorem CF.upd {D : List Addr} {a : Addr} {H : Hp} {u : HO} (ha : a ∈ D) : CF D H (L2.upd H a u) := fun b o h n _ => by
  rw [upd_ne (fun z => n (by rw [z]; exact ha))]
  exact h
theorem CF.kt {D : List Addr} {H H' : Hp} (e : CF D H H') (hD : ∀ d ∈ D, ∃ xs, H d = some (.lst xs)) : Kt H H' := fun b o h s => by
  refine e b o h (fun z => ?_) fun kvs z => ?_
  · obtain ⟨xs, q⟩ := hD b z
    rw [h] at q
    cases q
    exact s
  · rw [z] at s
    exact s
theorem CF.tabs {D : List Addr} {H H' : Hp} {T : List (Addr × Str)} (e : CF D H H') (hD : ∀ d ∈ D, ∃ xs, H d = some (.lst xs)) (h : Tabs T H) : Tabs T H' := fun p hp => by
  obtain ⟨ps, h1, h2, h3⟩ := h p hp
  have key : ∀ b o, H b = some o → (∀ xs, o ≠ .lst xs) → (∀ kvs, o ≠ .dK kvs) → H' b = some o := fun b o q n m => e b o q (fun z => by
    obtain ⟨xs, q'⟩ := hD b z
    rw [q] at q'
    cases q'
    exact n _ rfl) m
  refine ⟨ps, key _ _ h1 (fun _ z => (by cases z)) (fun _ z => (by cases z)), h2, fun pos cv hc => ?_⟩
  obtain ⟨c, e1, e2⟩ := h3 pos cv hc
  exact ⟨c, e1, key _ _ e2 (fun _ z => (by cases z)) (fun _ z => (by cases z))⟩
theorem TreeAt.keep {K : PySem.W.Frag} {H H' : Hp} {x dv dp : Addr} {Vs : List (Str × V)} {Ps : PlL} (e : ∀ b o, H b = some o → (∀ xs, o ≠ .lst xs) → H' b = some o) (T : TreeAt K H x dv dp Vs Ps) : TreeAt K H' x dv dp Vs Ps := by
  obtain ⟨dx, hx⟩ := T.ins
  exact ⟨⟨dx, e _ _ hx fun _ z => (by cases z)⟩, e _ _ T.atV fun _ z => (by cases z), e _ _ T.atP fun _ z => (by cases z), fun p hp => e _ _ (T.atI p hp) fun _ z => (by cases z), fun p hp q hq => e _ _ (T.atS p hp q hq) fun _ z => (by cases z), T.nd⟩
/-- the addresses of a state: the tree's, the list's, the labels', the stream's -/
structure StA (K : PySem.W.Frag) (H : Hp) (x dv dp kA lA r : Addr) (ms : List Str) (Vs : List (Str × V)) (Ps : PlL) (kl : List Ent) (n : Nat) : Prop where
  tr : TreeAt K H x dv dp Vs Ps
  ok : TOk n n n n Vs Ps
  lk : Lk ms Ps kl
  kn : ∃ us, H kA = some (.lst us) ∧ RpA K (CL K) H (kl.map dE) us
  len : kl.length ≤ n
  hms : LblOk ms
  m3 : ms.length ≤ 3
  lb : ∃ ls, H lA = some (.lst ls) ∧ RpA K (CL K) H ((belows ms).map tS) ls
  rg : RngAt r H
  nkr : kA ≠ r
  nlr : lA ≠ r
  nlk : lA ≠ kA
theorem noLA_dE {ms : List Str} {kl : List Ent} (h : KnOk ms kl) : noLA (kl.map dE) = true := noLA_of fun d hd => by
  obtain ⟨e, he, rfl⟩ := List.mem_map.mp hd
  exact noL_dE (menuV_ok _ (h e he).2.1) (menuK_ok _ (h e he).2.2)
theorem noLA_tS (ls : List (List Str)) : noLA (ls.map tS) = true := noLA_of fun d hd => by
  obtain ⟨l, _, rfl⟩ := List.mem_map.mp hd
  exact noL_tS l
theorem belows_8 {ms : List Str} (h : LblOk ms) (h3 : ms.length ≤ 3) : (belows ms).length ≤ 8 := by
  rw [← (subs_perm h.rise).length_eq, subs_len]
  exact Nat.pow_le_pow_right (by decide) h3
theorem belows_pos {ms : List Str} : [] ∈ belows ms := (mem_belows _).mpr ⟨List.Pairwise.nil, fun x hx => by cases hx⟩
section
variable {K : PySem.W.Frag} {H H' : Hp} {x dv dp kA lA r : Addr} {ms : List Str} {Vs : List (Str × V)} {Ps : PlL} {kl : List Ent} {n : Nat}
theorem StA.rlst (S : StA K H x dv dp kA lA r ms Vs Ps kl n) : ∃ xs, H r = some (.lst xs) := by
  obtain ⟨a, b, h, _⟩ := S.rg
  exact ⟨_, h⟩
theorem StA.klst (S : StA K H x dv dp kA lA r ms Vs Ps kl n) : ∃ xs, H kA = some (.lst xs) := by
  obtain ⟨us, h, _⟩ := S.kn
  exact ⟨_, h⟩
/-- a run that draws -/
theorem StA.mr (S : StA K H x dv dp kA lA r ms Vs Ps kl n) (m : MR r H H') : StA K H' x dv dp kA lA r ms Vs Ps kl n := by
  have kt := MR.kt S.rg m
  obtain ⟨us, k1, k2⟩ := S.kn
  obtain ⟨ls, l1, l2⟩ := S.lb
  obtain ⟨a, b, hr, _⟩ := S.rg
  exact ⟨S.tr.keep fun c o h no => m.2 c o h fun z => by rw [z, hr] at h; cases h; exact no _ rfl, S.ok, S.lk, ⟨us, m.2 _ _ k1 S.nkr, RpA.kt kt _ _ (noLA_dE S.lk.ok) k2⟩, S.len, S.hms, S.m3, ⟨ls, m.2 _ _ l1 S.nlr, RpA.kt kt _ _ (noLA_tS _) l2⟩, m.1, S.nkr, S.nlr, S.nlk⟩
theorem StA.same (S : StA K H x dv dp kA lA r ms Vs Ps kl n) (e : Same H H') : StA K H' x dv dp kA lA r ms Vs Ps kl n := S.mr (MR.of e S.rg)
/-- the tree changes -/
theorem StA.dk {Vs' : List (Str × V)} {Ps' : PlL} {m : Nat} (S : StA K H x dv dp kA lA r ms Vs Ps kl n) (e : DkFr H H') (T : TreeAt K H' x dv dp Vs' Ps') (O : TOk m m m m Vs' Ps') (L : Lk ms Ps' kl) (hn : kl.length ≤ m) : StA K H' x dv dp kA lA r ms Vs' Ps' kl m := by
  have kt := DkFr.kt e
  obtain ⟨us, k1, k2⟩ := S.kn
  obtain ⟨ls, l1, l2⟩ := S.lb
  obtain ⟨a, b, hr, q⟩ := S.rg
  exact ⟨T, O, L, ⟨us, e _ _ k1 fun _ z => (by cases z), RpA.kt kt _ _ (noLA_dE S.lk.ok) k2⟩, hn, S.hms, S.m3, ⟨ls, e _ _ l1 fun _ z => (by cases z), RpA.kt kt _ _ (noLA_tS _) l2⟩, ⟨a, b, e _ _ hr fun _ z => (by cases z), q⟩, S.nkr, S.nlr, S.nlk⟩
end
end Abv
set_option Elab.async false
set_option linter.all false
set_option maxRecDepth 100000
set_option maxHeartbeats 4000000
/-! ## The state of a script: changes of the list -/
namespace Abv
open PySem PySem.Spec PyProof.Rows L2 LamX
theorem TOk.mono {n m : Nat} {Vs : List (Str × V)} {Ps : PlL} (h : TOk n n n n Vs Ps) (hm : n ≤ m) : TOk m m m m Vs Ps :=
  ⟨h.kV, h.kP, h.kI, h.kS, Nat.le_trans h.nV hm, Nat.le_trans h.nP hm, fun p hp => Nat.le_trans (h.nI p hp) hm, fun p hp q hq => Nat.le_trans (h.nS p hp q hq) hm, h.okK, h.okVs, h.cov⟩
section
variable {K : PySem.W.Frag} {C : Addr} {H H1 H2 : Hp} {x dv dp kA lA r : Addr} {ms : List Str} {Vs Vs' : List (Str × V)} {Ps Ps' : PlL} {kl kl' : List Ent} {n m : Nat} {us' : List V}
theorem StA.kt (S : StA K H x dv dp kA lA r ms Vs Ps kl n) (e : SB kA H H1) : Kt H H1 := fun b o h s => e b o h fun z => by
  obtain ⟨xs, q⟩ := S.klst
  rw [z, q] at h
  cases h
  exact s
theorem StA.tree (S : StA K H x dv dp kA lA r ms Vs Ps kl n) (e : SB kA H H1) : TreeAt K H1 x dv dp Vs Ps := S.tr.keep fun b o h no => e b o h fun z => by
  obtain ⟨xs, q⟩ := S.klst
  rw [z, q] at h
  cases h
  exact no _ rfl
/-- list and tree change -/
theorem StA.chg (S : StA K H x dv dp kA lA r ms Vs Ps kl n) (e1 : SB kA H H1) (hk : H1 kA = some (.lst us')) (hr : RpA K (CL K) H1 (kl'.map dE) us') (e2 : DkFr H1 H2) (T : TreeAt K H2 x dv dp Vs' Ps') (O : TOk m m m m Vs' Ps') (L : Lk ms Ps' kl') (hn : kl'.length ≤ m) :
    StA K H2 x dv dp kA lA r ms Vs' Ps' kl' m := by
  obtain ⟨ls, l1, l2⟩ := S.lb
  obtain ⟨a, b, hr', q⟩ := S.rg
  have k1 := S.kt e1
  have k2 := DkFr.kt e2
  exact ⟨T, O, L, ⟨us', e2 _ _ hk fun _ z => (by cases z), RpA.kt k2 _ _ (noLA_dE L.ok) hr⟩, hn, S.hms, S.m3, ⟨ls, e2 _ _ (e1 _ _ l1 S.nlk) fun _ z => (by cases z), RpA.kt k2 _ _ (noLA_tS _) (RpA.kt k1 _ _ (noLA_tS _) l2)⟩,
    ⟨a, b, e2 _ _ (e1 _ _ hr' S.nkr.symm) fun _ z => (by cases z), q⟩, S.nkr, S.nlr, S.nlk⟩
end
section
variable {K : PySem.W.Frag} {C : Addr} {H : Hp}
theorem RpA.erase : ∀ {ds : List Dt} {vs : List V} (i : Nat), RpA K C H ds vs → RpA K C H (ds.eraseIdx i) (vs.eraseIdx i)
  | [], vs, i, h => by
    unfold RpA at h
    subst h
    exact RpA.nil
  | d :: ds, vs, 0, h => by
    unfold RpA at h
    obtain ⟨v, r, rfl, _, h⟩ := h
    exact h
  | d :: ds, vs, i + 1, h => by
    unfold RpA at h
    obtain ⟨v, r, rfl, h1, h⟩ := h
    exact RpA.cons h1 (RpA.erase i h)
theorem RpA.ints : ∀ {is : List Int} {ys : List V}, RpA K C H (is.map Dt.int) ys → ys = is.map V.int
  | [], ys, h => by
    unfold List.map RpA at h
    exact h
  | b :: bs, ys, h => by
    rw [List.map_cons] at h
    unfold RpA at h
    obtain ⟨v, r, rfl, h2, h3⟩ := h
    have e : v = V.int b := h2
    rw [e, RpA.ints h3, List.map_cons]
end
theorem fm_at (a : Nat) {f : Nat → Option Dt} : ∀ (n : Nat), (∀ i, i < n → f i = if i = a then some (.int (a : Int)) else none) → (List.range n).filterMap f = (if a < n then [(a : Int)] else []).map Dt.int
  | 0, _ => by simp
  | n + 1, h => by
    rw [fm_succ, fm_at a n fun i hi => h i (by omega), h n (by omega)]
    by_cases h1 : a < n
    · rw [if_pos h1, if_neg (by omega), if_pos (by omega)]
      simp
    · rw [if_neg h1]
      by_cases h2 : n = a
      · rw [if_pos h2, if_pos (by omega)]
        simp
      · rw [if_neg h2, if_neg (by omega)]
        rfl
/-- where an entry stands in the list, or the list's length -/
def plc (kl : List Ent) (e : Ent) : Nat := kl.findIdx fun x => decide (x = e)
theorem plc_yes {kl : List Ent} {e : Ent} (nd : kl.Nodup) (h : e ∈ kl) : ∃ A B, kl = A ++ e :: B ∧ plc kl e = A.length ∧ plc kl e < kl.length := by
  have hlt : plc kl e < kl.length := List.findIdx_lt_length_of_exists ⟨e, h, decide_eq_true rfl⟩
  have hat : kl[plc kl e] = e := of_decide_eq_true (List.findIdx_getElem (p := fun x => decide (x = e)) (w := hlt))
  refine ⟨kl.take (plc kl e), kl.drop (plc kl e + 1), ?_, by rw [List.length_take]; omega, hlt⟩
  have e1 := List.take_append_drop (plc kl e) kl
  rw [List.drop_eq_getElem_cons hlt, hat] at e1
  exact e1.symm
theorem plc_no {kl : List Ent} {e : Ent} (h : e ∉ kl) : plc kl e = kl.length := List.findIdx_eq_length.mpr fun x hx => decide_eq_false fun z => h (by rw [← z]; exact hx)
theorem plc_f {kl : List Ent} {e : Ent} (nd : kl.Nodup) : ∀ i, i < kl.length → ((kl[i]?).bind fun x => if x = e then some (Dt.int (i : Int)) else none) = if i = plc kl e then some (.int (plc kl e : Int)) else none := by
  intro i hi
  rw [List.getElem?_eq_getElem hi, Option.bind_some]
  by_cases h : e ∈ kl
  · have hlt : plc kl e < kl.length := List.findIdx_lt_length_of_exists ⟨e, h, decide_eq_true rfl⟩
    have hat : kl[plc kl e] = e := of_decide_eq_true (List.findIdx_getElem (p := fun x => decide (x = e)) (w := hlt))
    by_cases q : i = plc kl e
    · subst q
      rw [if_pos hat, if_pos rfl]
    · rw [if_neg q, if_neg]
      intro z
      exact q ((List.getElem_inj nd).mp (z.trans hat.symm))
  · have hne : i ≠ plc kl e := by
      rw [plc_no h]
      omega
    rw [if_neg (show ¬ kl[i] = e from fun z => h (by rw [← z]; exact List.getElem_mem hi)), if_neg hne]
/-- the due of a taking -/
def dueD (b : Bool) (vk : V) : List PyData := if b then [.str "done", .none] else [.str "NoEntry", toPy (dOf vk)]
def dueV (b : Bool) (vk : V) : List V := if b then [.str "done", .non] else [.str "NoEntry", vk]
theorem due_go {K : PySem.W.Frag} {H : Hp} {Q : VK} {σ : L2.St} {b : Bool} {t al : Addr} {vv vk : V} (h4 : σ[4]? = some (some (.ref t))) (hT : SqT K H t [.ref al, vv, vk]) (q : ∀ td H', Same H H' → H' td = some (.tup (dueV b vk)) → Q (.ref td) H') :
    if b = true then tTup (tCons (tC (V.str "done")) (tCons (tC V.non) tNil)) σ H Q else tTup (tCons (tC (V.str "NoEntry")) (tCons (tOp (rIxT K) (tVar 4) (tC (V.int 2))) tNil)) σ H Q := by
  cases b with
  | true => exact iteT ⟨szl (Nat.le_of_ble_eq_true rfl), fun p hp => q p _ (Same.new hp) upd_same⟩
  | false => exact iteF ⟨_, h4, t, _, 2, vk, rfl, rfl, hT, rfl, szl (Nat.le_of_ble_eq_true rfl), fun p hp => q p _ (Same.new hp) upd_same⟩
theorem menuK_ne : ∀ k ∈ menuK, rprOk (.tuple [.str "NoEntry", toPy (dOf k)]) := by
  intro k hk
  have ok := menuK_ok _ hk
  obtain ⟨y1, y2, y3⟩ := menuK_z _ hk
  refine ⟨by simp [PyData.showable, PyData.showableAll, y2], by simp [PyData.hasDict, PyData.hasDictAll, y3], ?_, by simp [PyData.depth, PyData.depthAll, okV_depth ok]⟩
  simp only [PyData.shown, PyData.shownAll, shown_v ok]
  have h1 := tup_len [reprText "NoEntry", rprV k]
  rw [piled_cons, piled_cons] at h1
  have h2 : (reprText "NoEntry").length = 9 := by decide +kernel
  have h3 : piled [] = 0 := rfl
  omega
end Abv
set_option Elab.async false
set_option linter.all false
set_option maxRecDepth 100000
set_option maxHeartbeats 4000000
/-! ## _law_change_right -/
namespace Abv
open PySem PySem.Spec PyProof.Rows L2 LamX
/-- a pair as a target -/
theorem pg_pair {X : Cx} {K : PySem.W.Frag} {i j k : Nat} {x y : Str} {p1 p2 pos : Pos} (hc : X.calm = true) (hN : X.N.Nodup) (hi : X.N[i]? = some x) (hj : X.N[j]? = some y) (hx : Loc X.env.scope x) (hy : Loc X.env.scope y)
    (fx : X.fn x = true ∨ X.env.scope.names.lookup x = some .local := by first | exact .inl rfl | exact .inr rfl) (fy : X.fn y = true ∨ X.env.scope.names.lookup y = some .local := by first | exact .inl rfl | exact .inr rfl) (hK : X.K = K := by rfl) :
    PG X (.Tuple [.Name x p1, .Name y p2] k pos) (gTup K 2 (gCons (gName i) (gCons (gName j) gNil))) := by
  subst hK
  exact pg_tup hc (pgs_cons (pg_name hN hi hx fx) (pgs_cons (pg_name hN hj hy fy) pgs_nil))
theorem noB_dE {e : Ent} (hv : okV e.v = true) (hk : okV e.k = true) : noB (dE e) = true := by
  unfold dE tS
  have h : ∀ v : V, okV v = true → noB (dOf v) = true := fun v h => by
    rcases okV_cases h with ⟨b, rfl⟩ | ⟨i, rfl⟩ | ⟨s, rfl⟩ <;> rfl
  simp [noB, noBA, noBA_strs, h _ hv, h _ hk]
/-- repr of an entry -/
theorem rpr_ent {K : PySem.W.Frag} {H : Hp} {v : V} {e : Ent} {ms : List Str} {Q : VK} (hms : LblOk ms) (he : EntOk ms e) (h : Rp K (CL K) H (dE e) v) (q : Q (.str (eT e)) H) : rRprD K [v] H Q :=
  ⟨v, toPy (dE e), rfl, Rp.dp _ _ (noB_dE (menuV_ok _ he.2.1) (menuK_ok _ he.2.2)) h, rprOk_E hms he, by rw [shown_E (menuV_ok _ he.2.1) (menuK_ok _ he.2.2)]; exact q⟩
section
variable {P : Program} {w : World} {K : PySem.W.Frag} {mg : Str → Option Value} {base : Heap}
def spChg (K : PySem.W.Frag) : Sp := fun vs H Q _ => ∃ (r x kA lA dv dp : Addr) (ms : List Str) (Vs : List (Str × V)) (Ps : PlL) (kl : List Ent) (n : Nat), vs = [.ref r, .ref x, .ref kA, .ref lA] ∧ StA K H x dv dp kA lA r ms Vs Ps kl n ∧ n < 60 ∧
  ∀ H' Vs' Ps' kl', CF [r, kA] H H' → StA K H' x dv dp kA lA r ms Vs' Ps' kl' (n + 1) → Q (.bl true) H'
abbrev s__law_change_right : Stmt := top 59
abbrev n__law_change_right : List Str := ["_law_rng_here", "_law_tree", "_law_known", "_law_labels_here", "_law_one", "_law_label", "_law_there", "_law_due", "_law_places", "_law_place", "_law_entry", "_law_k"]
theorem sc__law_change_right : FnScope n__law_change_right ["_law_rng_here", "_law_tree", "_law_known", "_law_labels_here"] (defScope s__law_change_right) := ⟨rfl, rfl, rfl, by decide +kernel, rfl, by decide +kernel, by decide +kernel⟩
theorem ok_chg (T : Tx K mg) (Y : Ty K) (X : Xo K) (C_out : ClG CX0 P w K mg base 11 "_law_outcome" (spOut K)) : ClG CX0 P w K mg base 12 "_law_change_right" (spChg K) := by
  have C__law_choice : Cl CX0 P w K mg base 2 "_law_choice" (spChoice K) := ok_choice T
  have C__law_some_value : Cl CX0 P w K mg base 3 "_law_some_value" (spMenu K menuV) := ok_someV T
  have C__law_some_key : Cl CX0 P w K mg base 3 "_law_some_key" (spMenu K menuK) := ok_someK T
  have C__law_draw : Cl CX0 P w K mg base 1 "_law_draw" (spDraw K) := ok_draw T
  have C__law_made_label : Cl CX0 P w K mg base 6 "_law_made_label" (sp_law_made_label K) := ok_law_made_label T Y
  refine clG0 T.f__law_change_right sc__law_change_right (fun _ _ _ _ _ _ us hl => match us, hl with | [_, _, _, _], _ => rfl) (fun vs H Q E h => ?_) (fun f cdv A outer s H vs Q E hgu hr h => ?_)
  · obtain ⟨r, x, kA, lA, dv, dp, ms, Vs, Ps, kl, n, rfl, _⟩ := h
    rfl
  obtain ⟨r, x, kA, lA, dv, dp, ms, Vs, Ps, kl, n, rfl, S, hn, k⟩ := h
  have hg2 : (A.deeper (envOfC "_law_change_right" (defScope s__law_change_right) s.heap.objs.size f cdv)).guards = some [] := hgu
  refine ⟨_, PSs.nox (pss_cons (ps_set (i := 4) sc__law_change_right.nd rfl (Or.inr rfl) (pe_tup (pa_cons (pe_cl C__law_choice hr (by decide) pass0 rfl (pa_cons (pv 0) (pa_cons (pv 3) pa_nil))) (pa_cons (pe_cl C__law_some_value hr (by decide) pass0 rfl (pa_cons (pv 0) pa_nil)) (pa_cons (pe_cl C__law_some_key hr (by decide) pass0 rfl (pa_cons (pv 0) pa_nil)) pa_nil)))))
      (pss_cons (ps_par (i := 5) (j := 6) rfl sc__law_change_right.nd rfl rfl (by decide) rfl rfl (pa_cons (pe_cl C__law_made_label hr (by decide) pass0 rfl (pa_cons (pe_ix (ixT (K := K)) (pv 4) pe_int (fun _ _ => rfl)) pa_nil)) (pa_cons (pe_cmpR (inQ (K := K)) (pe_callB (id := "repr") (rprD (K := K) (k := 11) (by exact hg2) (by exact hr)) (by rfl) T.b_repr (by decide +kernel) (pa_cons (pv 4) pa_nil)) (pe_lc (own := [("_law_entry", 10)]) rfl sc__law_change_right.nd (pi_listK (K := K) (pv 2)) (blkOk_by (own := [("_law_entry", 10)]) (N := n__law_change_right) (sc := defScope s__law_change_right) (by decide +kernel)) (fun _ _ _ _ _ => (pg_name (i := 10) sc__law_change_right.nd rfl (Or.inl rfl))) (fun _ _ _ _ _ => pts_nil) (fun _ _ _ _ _ => (pe_callB (id := "repr") (rprD (K := K) (k := 11) (by exact hg2) (by exact hr)) (by rfl) T.b_repr (by decide +kernel) (pa_cons (pv 10) pa_nil)))) (by rfl)) pa_nil)) (by rfl))
      (pss_cons (ps_if (pt_cmpR op_gt (pe_cl C__law_draw hr (by decide) pass0 rfl (pa_cons (pv 0) (pa_cons pe_int pa_nil))) pe_int (nomark _)) (pss_cons (ps_expr (pe_bmK (K := K) PySem.F.plainAttrs_list PySem.F.slot_list_extend PySem.F.type_list_extend mt_extend (pv 2) (pa_cons (pe_op op_rep (pe_lst (pa_cons (pv 4) pa_nil)) (pe_callTy (T := "int") call_int1 (by rfl) T.b_int (by decide +kernel) (pa_cons (pe_not (pv 6)) pa_nil))) pa_nil)))
      (pss_one (ps_ret (pe_cmpR op_eq (pe_clg C_out hg2 hr (by decide) pass0 rfl (pa_cons (pv 1) (pa_cons pe_int (pa_cons (pv 5) (pa_cons (pe_ix (ixT (K := K)) (pv 4) pe_int (fun _ _ => rfl)) (pa_cons (pe_ix (ixT (K := K)) (pv 4) pe_int (fun _ _ => rfl)) pa_nil)))))) (pe_callB (id := "repr") (rprD (K := K) (k := 11) (by exact hg2) (by exact hr)) (by rfl) T.b_repr (by decide +kernel) (pa_cons (pe_tup (pa_cons pe_str (pa_cons pe_non pa_nil))) pa_nil)) (nomark _))))) pss_nil)
      (pss_cons (ps_set (i := 7) sc__law_change_right.nd rfl (Or.inl rfl) (pe_ifExp (pt_val (pv 6)) (pe_tup (pa_cons pe_str (pa_cons pe_non pa_nil))) (pe_tup (pa_cons pe_str (pa_cons (pe_ix (ixT (K := K)) (pv 4) pe_int (fun _ _ => rfl)) pa_nil)))))
      (pss_cons (ps_setLc (i := 8) (own := [("_law_k", 11), ("_law_entry", 10)]) rfl sc__law_change_right.nd rfl rfl (sw_true rfl rfl rfl (by decide +kernel)) (pi_enumK (K := K) rfl T.b_enumerate (pa_cons (pv 2) pa_nil)) (blkOk_by (own := [("_law_k", 11), ("_law_entry", 10)]) (N := n__law_change_right) (sc := defScope s__law_change_right) (by decide +kernel)) (fun _ _ _ _ _ => (pg_pair (K := K) (i := 11) (j := 10) rfl sc__law_change_right.nd rfl rfl (Or.inl rfl) (Or.inl rfl))) (fun _ _ _ _ _ => pts_one (pt_cmpR op_eq (pe_callB (id := "repr") (rprD (K := K) (k := 11) (by exact hg2) (by exact hr)) (by rfl) T.b_repr (by decide +kernel) (pa_cons (pv 10) pa_nil)) (pe_callB (id := "repr") (rprD (K := K) (k := 11) (by exact hg2) (by exact hr)) (by rfl) T.b_repr (by decide +kernel) (pa_cons (pv 4) pa_nil)) (nomark _))) (fun _ _ _ _ _ => (pv 11)))
      (pss_cons (ps_for PassesOwn.never rfl (pi_listK (K := K) (pv 8)) (pg_name (i := 9) sc__law_change_right.nd rfl (Or.inl rfl))
        (pss_one (ps_expr (pe_bmK (K := K) PySem.F.plainAttrs_list PySem.F.slot_list_pop PySem.F.type_list_pop mt_popAt (pv 2) (pa_cons (pv 9) pa_nil)))))
      (pss_one (ps_ret (pe_cmpR op_eq (pe_clg C_out hg2 hr (by decide) pass0 rfl (pa_cons (pv 1) (pa_cons pe_int (pa_cons (pv 5) (pa_cons (pe_ix (ixT (K := K)) (pv 4) pe_int (fun _ _ => rfl)) (pa_cons (pe_ix (ixT (K := K)) (pv 4) pe_int (fun _ _ => rfl)) pa_nil)))))) (pe_callB (id := "repr") (rprD (K := K) (k := 11) (by exact hg2) (by exact hr)) (by rfl) T.b_repr (by decide +kernel) (pa_cons (pv 7) pa_nil)) (nomark _)))))))))), ?_⟩
  obtain ⟨ls, hls, rls⟩ := S.lb
  have lls := rls.len
  rw [List.length_map] at lls
  have l8 := belows_8 S.hms S.m3
  have l0 : 0 < (belows ms).length := List.length_pos_of_mem belows_pos
  refine ⟨_, rfl, _, rfl, r, lA, ls, rfl, SqL.of hls, S.nlr, by omega, by omega, S.rg, fun vl H1 hvl m1 => ?_⟩
  obtain ⟨l, rvl⟩ : ∃ l, l ∈ belows ms ∧ Rp K (CL K) H (tS l) vl := by
    obtain ⟨i, hi, rfl⟩ := List.mem_iff_getElem.mp hvl
    obtain ⟨d, h1, h2⟩ := rls.get (List.getElem?_eq_getElem hi)
    rw [List.getElem?_map, Option.map_eq_some_iff] at h1
    obtain ⟨l, hl, rfl⟩ := h1
    exact ⟨l, List.mem_of_getElem? hl, h2⟩
  obtain ⟨hlb, rvl⟩ := rvl
  have S1 := S.mr m1
  have rvl := Rp.kt (MR.kt S.rg m1) _ _ (noL_tS l) rvl
  refine ⟨_, rfl, r, rfl, S1.rg, fun vv H2 hvv m2 => ⟨_, rfl, r, rfl, (S1.mr m2).rg, fun vk H3 hvk m3 => ?_⟩⟩
  have S2 := S1.mr m2
  have S3 := S2.mr m3
  have rvl := Rp.kt (MR.kt S2.rg m3) _ _ (noL_tS l) (Rp.kt (MR.kt S1.rg m2) _ _ (noL_tS l) rvl)
  have mA := m1.trans (m2.trans m3)
  clear m1 m2 m3 S1 S2 hvl
  obtain ⟨al, rfl, hal⟩ := rvl.tS_at
  have eo : EntOk ms ⟨l, vv, vk⟩ := ⟨hlb, hvv, hvk⟩
  have ov := menuV_ok _ hvv
  have ok := menuK_ok _ hvk
  refine ⟨szl (Nat.le_of_ble_eq_true rfl), fun t ht => ?_⟩
  have e4 := Same.new (u := .tup [.ref al, vv, vk]) ht
  have hT := upd_same (H := H3) (a := t) (o := .tup [.ref al, vv, vk])
  show (fun H4 => _) (upd H3 t (.tup [.ref al, vv, vk]))
  generalize upd H3 t (.tup [.ref al, vv, vk]) = H4 at e4 hT
  have S4 := S3.same e4
  have rO : Rp K (CL K) H4 (dE ⟨l, vv, vk⟩) (.ref t) := Rp.ent_of ov ok (SqT.of hT) (Same.seqT e4 hal)
  have mA := mA.trans (MR.of e4 S3.rg)
  clear ht
  have lo := belows_ok S.hms hlb
  refine ⟨_, rfl, t, _, 0, .ref al, rfl, rfl, SqT.of hT, rfl, .ref al, l, rfl, Rp.tS_of (Same.seqT e4 hal), lo, fun lx H5 e5 hlx => ?_⟩
  have S5 := S4.same e5
  have rO5 := Rp.same e5 _ _ rO
  obtain ⟨us, hkA, rus⟩ := S5.kn
  have lus := rus.len
  rw [List.length_map] at lus
  have hlen := S.len
  refine ⟨_, rfl, ?_⟩
  dsimp only [tNil]
  refine rpr_ent S.hms eo rO5 ⟨_, rfl, kA, rfl, ⟨us, SqL.of hkA⟩, fun D nD => ?_⟩
  refine lcL (K := K) (C := CL K) (fun j => (kl[j]?).bind fun e => some (.str (eT e))) (fmSame _) nD (by omega) (fun Hc h => SqL.of (h _ _ hkA)) (fun j d _ e => ?_) (fun j v Hc R SS hv hM _ hS => ⟨rfl, yes_go ?_⟩) (fun Hc zs hM hD2 hz => ?_) (fun Hc _ => Same.refl Hc)
  · cases h : kl[j]? with
    | none =>
      rw [h] at e
      cases e
    | some v =>
      rw [h] at e
      cases e
      rfl
  · obtain ⟨d, h1, h2⟩ := rus.get hv
    rw [List.getElem?_map, Option.map_eq_some_iff] at h1
    obtain ⟨en, hen, rfl⟩ := h1
    refine ⟨_, rfl, ?_⟩
    dsimp only [tNil]
    exact rpr_ent S.hms (S.lk.ok en (List.mem_of_getElem? hen)) (Rp.same hM _ _ h2) (hS _ _ (.str (eT en)) (Same.refl _) (by rw [hen]; rfl) rfl)
  have e : (List.range us.length).filterMap (fun j => (kl[j]?).bind fun e => some (Dt.str (eT e))) = (kl.map eT).map Dt.str := by
    rw [lus, fm_list, fm_map, List.map_map]
    rfl
  rw [e] at hz
  have hz := hz.strs
  subst hz
  refine ⟨D, _, rfl, .inl (SqL.of hD2), rfl, all_flat_strs _, ?_⟩
  rw [if_neg (by decide), inV_strs, mem_eT S.hms eo S.lk.ok]
  have S6 := S5.same hM
  have rO6 := Rp.same hM _ _ rO5
  have hlx6 := Rp.same hM _ _ hlx
  have mA := mA.trans (MR.of (e5.trans hM) S4.rg)
  clear S5 rO5 hlx hD2 S4 S3 rO rvl e4 hT e nD
  refine ⟨_, _, rfl, ?_⟩
  refine ⟨_, rfl, r, 3, rfl, by decide, by decide, S6.rg, fun i H7 hi m7 => ⟨_, _, rfl, rfl, _, rfl, ?_⟩⟩
  have S7 := S6.mr m7
  have mA := mA.trans m7
  have kt7 := MR.kt S6.rg m7
  have rO7 := Rp.kt kt7 _ _ (noL_dE (e := ⟨l, vv, vk⟩) ov ok) rO6
  have hlx7 := Rp.kt kt7 _ _ rfl hlx6
  obtain ⟨t', al', tt, hT7, hal7⟩ := Rp.ent ov ok rO7
  cases tt
  clear S6 kt7 rO6 hlx6 m7 hkA rus lus hz hal e5 hM
  obtain ⟨us7, hkA, rus⟩ := S7.kn
  have lus := rus.len
  rw [List.length_map] at lus
  refine ite2 (fun hc => ?_) (fun hc => ?_)
  · refine ⟨_, rfl, Or.inl ⟨rfl, _, SqL.of hkA⟩, _, rfl, szl (Nat.le_of_ble_eq_true rfl), fun p1 hp1 => ⟨_, rfl, _, rfl, .inr ⟨_, rfl, p1, _, _, rfl, rfl, upd_same, ?_, ?_, ?_, fun p2 hp2 => ?_⟩⟩⟩
    · split <;> decide
    · split <;> decide
    · split <;> exact szl (Nat.le_of_ble_eq_true rfl)
    have hfl : (List.replicate (Int.toNat (if (!decide ((⟨l, vv, vk⟩ : Ent) ∈ kl)) = true then 1 else 0)) [V.ref t]).flatten = if (⟨l, vv, vk⟩ : Ent) ∈ kl then [] else [V.ref t] := by
      by_cases he : (⟨l, vv, vk⟩ : Ent) ∈ kl
      · rw [decide_eq_true he, if_pos he]
        rfl
      · rw [decide_eq_false he, if_neg he]
        rfl
    rw [hfl]
    have e8 := (Same.new (u := .lst [V.ref t]) hp1).trans (Same.new (u := .lst (if (⟨l, vv, vk⟩ : Ent) ∈ kl then [] else [V.ref t])) hp2)
    have hp2' := upd_same (H := upd H7 p1 (.lst [V.ref t])) (a := p2) (o := .lst (if (⟨l, vv, vk⟩ : Ent) ∈ kl then [] else [V.ref t]))
    generalize upd (upd H7 p1 (.lst [V.ref t])) p2 (.lst (if (⟨l, vv, vk⟩ : Ent) ∈ kl then [] else [V.ref t])) = H8 at e8 hp2'
    dsimp only [tNil]
    refine ⟨kA, p2, us7, _, rfl, rfl, e8 _ _ hkA, hp2', ?_, ?_⟩
    · rw [sizeLine_eq]
      split <;> simp only [List.length_nil, List.length_singleton] <;> omega
    have S8 := S7.same e8
    have hkA8 := e8 _ _ hkA
    have rus8 := RpA.same e8 _ _ rus
    have hT8 := Same.seqT e8 hT7
    have hlx8 := Rp.same e8 _ _ hlx7
    have rO8 := Rp.same e8 _ _ rO7
    have mB := mA.trans (MR.of e8 S7.rg)
    clear hp2' e8 hfl hp2 hp1 S7 mA rO7 hlx7 hT7 hal7 hkA rus
    generalize hko : (if (⟨l, vv, vk⟩ : Ent) ∈ kl then ([] : List V) else [V.ref t]) = mo
    have sb : SB kA H8 (upd H8 kA (.lst (us7 ++ mo))) := SB.upd
    have hk9 := upd_same (H := H8) (a := kA) (o := .lst (us7 ++ mo))
    generalize upd H8 kA (.lst (us7 ++ mo)) = H9 at sb hk9 ⊢
    have hk9' : RpA K (CL K) H9 ((kl ++ if (⟨l, vv, vk⟩ : Ent) ∈ kl then [] else [(⟨l, vv, vk⟩ : Ent)]).map dE) (us7 ++ mo) := by
      rw [List.map_append]
      refine RpA.append (RpA.kt (S8.kt sb) _ _ (noLA_dE S8.lk.ok) rus8) ?_
      rw [← hko]
      split
      · exact RpA.nil
      · exact RpA.one (Rp.kt (S8.kt sb) _ _ (noL_dE (e := ⟨l, vv, vk⟩) ov ok) rO8)
    have T9 := S8.tree sb
    have hT9 := Kt.seqT (S8.kt sb) hT8
    have hlx9 := Rp.kt (S8.kt sb) _ _ rfl hlx8
    refine ⟨_, rfl, _, rfl, _, rfl, t, _, 1, vv, rfl, rfl, hT9, rfl, _, rfl, t, _, 2, vk, rfl, rfl, hT9, rfl, ?_⟩
    dsimp only [tNil]
    refine out_put T9 S8.ok hn hlx9 lo hvv hvk fun H' Vs' Ps' dk T' O' hm => ?_
    refine ⟨szl (Nat.le_of_ble_eq_true rfl), fun p3 hp3 => ?_⟩
    have e10 := Same.new (u := .tup [.str "done", .non]) hp3
    refine ⟨_, _, rfl, .tup (SqT.of upd_same) (.cons (.str _) (.cons .non .nil)), ok_doneN, rfl, ?_⟩
    have hd : decide (V.str (donT .none) = V.str (PyData.tuple [.str "done", .none]).shown) = true := decide_eq_true rfl
    rw [hd]
    have L' := S8.lk.put S8.hms eo (Ps' := Ps') (fun z => hm z)
    have S9 := S8.chg sb hk9 hk9' dk T' O' L' (by rw [List.length_append]; split <;> simp only [List.length_nil, List.length_singleton] <;> omega)
    exact k _ Vs' Ps' _ ((CF.sb mB.2 (List.mem_cons_self ..)).trans ((CF.sb sb (List.mem_cons_of_mem _ (List.mem_cons_self ..))).trans ((CF.dk dk).trans (CF.of e10)))) (S9.same e10)
  · refine ⟨_, rfl, _, rfl, due_go rfl hT7 fun td H8 e8 htd => ?_⟩
    have S8 := S7.same e8
    have hkA8 := e8 _ _ hkA
    have rus8 := RpA.same e8 _ _ rus
    have hT8 := Same.seqT e8 hT7
    have hlx8 := Rp.same e8 _ _ hlx7
    have rO8 := Rp.same e8 _ _ rO7
    have mB := mA.trans (MR.of e8 S7.rg)
    clear e8 S7 mA rO7 hlx7 hT7 hal7 hkA rus
    refine ⟨_, rfl, kA, us7, rfl, SqL.of hkA8, fun D nD => ?_⟩
    refine lcJ (K := K) (C := CL K) (n := us7.length) (fun i y H' => ∃ T u, y = .ref T ∧ us7[i]? = some u ∧ SqT K H' T [.int (i : Int), u]) (fun i => (kl[i]?).bind fun x => if x = (⟨l, vv, vk⟩ : Ent) then some (Dt.int (i : Int)) else none) (fmSame H8) nD (by omega)
      (fun i Hc hi hM => ⟨_, _, SqL.of (hM _ _ hkA8), List.getElem?_eq_getElem hi⟩) (fun Hc hM => ⟨_, SqL.of (hM _ _ hkA8), Nat.le_refl _⟩) ?_ ?_ ?_ ?_
    · rintro i Hc y Hd hi hM ⟨T, u, rfl, hT, rfl, hu⟩
      exact ⟨Same.new hT, T, u, rfl, hu _ (SqL.of (hM _ _ hkA8)), SqT.of upd_same⟩
    · intro i d hi e
      rw [plc_f S8.lk.nd i (by omega)] at e
      split at e
      · cases e
        rfl
      · cases e
    · rintro i y Hc R SS hi hM ⟨T, u, rfl, hu, hTu⟩ hR hS
      obtain ⟨d, h1, h2⟩ := rus8.get hu
      rw [List.getElem?_map, Option.map_eq_some_iff] at h1
      obtain ⟨en, hen, rfl⟩ := h1
      have hin := S8.lk.ok en (List.mem_of_getElem? hen)
      refine ⟨T, _, rfl, hTu, rfl, _, _, rfl, _, _, rfl, rfl, rfl, ?_⟩
      refine ⟨_, rfl, ?_⟩
      dsimp only [tNil]
      refine rpr_ent S8.hms hin (Rp.same hM _ _ h2) ?_
      refine ⟨_, rfl, ?_⟩
      dsimp only [tNil]
      refine rpr_ent S8.hms eo (Rp.same hM _ _ rO8) ?_
      refine ⟨rfl, _, rfl, ?_⟩
      by_cases he : en = (⟨l, vv, vk⟩ : Ent)
      · have hd : decide (V.str (eT en) = V.str (eT ⟨l, vv, vk⟩)) = true := by rw [he]; exact decide_eq_true rfl
        rw [hd]
        refine iteT ⟨_, rfl, hS _ _ (.int (i : Int)) (Same.refl _) ?_ rfl⟩
        rw [hen, Option.bind_some, if_pos he]
      · have hd : decide (V.str (eT en) = V.str (eT ⟨l, vv, vk⟩)) = false := decide_eq_false fun z => he (eT_inj S8.hms hin eo (by injection z))
        rw [hd]
        refine iteF (hR _ (Same.refl _) ?_)
        rw [hen, Option.bind_some, if_neg he]
    intro Hc ys hM hD hy
    rw [lus, fm_at (plc kl ⟨l, vv, vk⟩) kl.length (plc_f S8.lk.nd)] at hy
    have hy := hy.ints
    have S9 := S8.same hM
    have hk9 := hM _ _ hkA8
    have rus9 := RpA.same hM _ _ rus8
    have hT9 := Same.seqT hM hT8
    have hlx9 := Rp.same hM _ _ hlx8
    have htd9 := hM _ _ htd
    have mC := mB.trans (MR.of hM S8.rg)
    have hDk : D ≠ kA := fun z => by
      rw [z, hkA8] at nD
      cases nD
    clear S8 hkA8 rus8 hT8 hlx8 rO8 htd mB hM nD
    have he3 := S9.lk.nd
    by_cases he : (⟨l, vv, vk⟩ : Ent) ∈ kl
    · obtain ⟨B1, B2, hkl, hp, hlt⟩ := plc_yes he3 he
      rw [if_pos hlt] at hy
      subst hy
      rw [decide_eq_true he] at htd9 ⊢
      generalize hpa : plc kl ⟨l, vv, vk⟩ = a at hD hlt hp
      refine ⟨_, rfl, D, rfl, ⟨_, SqL.of hD⟩, forJ 1 (fun i σ H' => (∃ z, σ = [some (.ref r), some (.ref x), some (.ref kA), some (.ref lA), some (.ref t), some (.ref lx), some (.bl true), some (.ref td), some (.ref D), z, none, none]) ∧ H' D = some (.lst [.int (a : Int)]) ∧ D ≠ kA ∧ SB kA Hc H' ∧ H' kA = some (.lst (if i = 0 then us7 else us7.eraseIdx a))) ?_ ?_ ?_ ?_ ?_⟩
      · exact ⟨⟨none, rfl⟩, hD, hDk, SB.refl _ _, hk9⟩
      · intro i σ H' hi h
        obtain rfl : i = 0 := by omega
        exact ⟨_, _, SqL.of h.2.1, rfl⟩
      · exact fun σ H' h => ⟨_, SqL.of h.2.1, Nat.le_refl _⟩
      · rintro i y σ H' H2' hi ⟨⟨z, rfl⟩, h2, h3, h4, h5⟩ ⟨rfl, hx⟩
        have hi0 : i = 0 := by omega
        subst hi0
        have hx := hx _ (SqL.of h2)
        cases hx
        rw [if_pos rfl] at h5
        refine ⟨_, rfl, Or.inl ⟨rfl, _, SqL.of h5⟩, _, rfl, kA, us7, (a : Int), a, us7[a], rfl, rfl, h5, by omega, by omega, PySem.seqIndex_of (by omega) (by omega), List.getElem?_eq_getElem (by omega), ⟨_, rfl⟩, ?_, h3, h4.trans SB.upd, ?_⟩
        · rw [upd_ne h3]
          exact h2
        · rw [if_neg (by omega), upd_same]
      · rintro σ H' ⟨⟨z, rfl⟩, h2, h3, sb, hk10⟩
        rw [if_neg (by omega)] at hk10
        have rus10 : RpA K (CL K) H' ((B1 ++ B2).map dE) (us7.eraseIdx a) := by
          have h1 := RpA.erase a (RpA.kt (S9.kt sb) _ _ (noLA_dE S9.lk.ok) rus9)
          have h2 : (kl.map dE).eraseIdx a = (B1 ++ B2).map dE := by
            rw [hkl, hp, List.map_append, List.map_cons, List.eraseIdx_append_of_length_le (by rw [List.length_map]; exact Nat.le_refl _), List.length_map, Nat.sub_self, List.eraseIdx_cons_zero, List.map_append]
          rw [h2] at h1
          exact h1
        have T10 := S9.tree sb
        have hT10 := Kt.seqT (S9.kt sb) hT9
        have hlx10 := Rp.kt (S9.kt sb) _ _ rfl hlx9
        have htd10 := S9.kt sb _ _ htd9 True.intro
        refine ⟨_, rfl, _, rfl, _, rfl, t, _, 1, vv, rfl, rfl, hT10, rfl, _, rfl, t, _, 2, vk, rfl, rfl, hT10, rfl, ?_⟩
        dsimp only [tNil]
        refine out_take X T10 S9.ok hn hlx10 lo hvv hvk (menuK_ne _ hvk) (fun _ H2' Ps' dk T' O' hm => ?_) (fun hno => absurd ((S9.lk.mem' S9.hms eo).mpr he) hno)
        have htd11 := DkFr.kt dk _ _ htd10 True.intro
        refine ⟨_, rfl, _, _, rfl, .tup (SqT.of htd11) (.cons (.str _) (.cons .non .nil)), ok_doneN, rfl, ?_⟩
        have hd : decide (V.str (donT .none) = V.str (PyData.tuple [.str "done", .none]).shown) = true := decide_eq_true rfl
        rw [hd]
        have L' := S9.lk.take S9.hms eo hkl (Ps' := Ps') (fun z => hm z)
        have hl' : (B1 ++ B2).length ≤ n + 1 := by
          have := S9.len
          rw [hkl] at this
          simp only [List.length_append, List.length_cons] at this ⊢
          omega
        have S10 := S9.chg sb hk10 rus10 dk T' (O'.mono (Nat.le_succ n)) L' hl'
        exact k _ Vs Ps' _ ((CF.sb mC.2 (List.mem_cons_self ..)).trans ((CF.sb sb (List.mem_cons_of_mem _ (List.mem_cons_self ..))).trans (CF.dk dk))) S10
    · rw [plc_no he, if_neg (Nat.lt_irrefl _)] at hy
      subst hy
      rw [decide_eq_false he] at htd9 ⊢
      refine ⟨_, rfl, D, rfl, ⟨_, SqL.of hD⟩, forJ 0 (fun i σ H' => σ = [some (.ref r), some (.ref x), some (.ref kA), some (.ref lA), some (.ref t), some (.ref lx), some (.bl false), some (.ref td), some (.ref D), none, none, none] ∧ H' = Hc) ⟨rfl, rfl⟩ (fun i σ H' hi _ => by omega) ?_ (fun i _ _ _ _ hi => by omega) ?_⟩
      · rintro σ H' ⟨_, rfl⟩
        exact ⟨_, SqL.of hD, Nat.le_refl _⟩
      · rintro σ H' ⟨rfl, rfl⟩
        refine ⟨_, rfl, _, rfl, _, rfl, t, _, 1, vv, rfl, rfl, hT9, rfl, _, rfl, t, _, 2, vk, rfl, rfl, hT9, rfl, ?_⟩
        dsimp only [tNil]
        refine out_take X S9.tr S9.ok hn hlx9 lo hvv hvk (menuK_ne _ hvk) (fun hin => absurd ((S9.lk.mem' S9.hms eo).mp hin) he) (fun _ H2' e2 => ?_)
        refine ⟨_, rfl, _, _, rfl, .tup (SqT.of (e2 _ _ htd9)) (.cons (.str _) (.cons (okV_dp ok) .nil)), menuK_ne _ hvk, rfl, ?_⟩
        have hd : decide (V.str (tldT "NoEntry" (dOf vk)) = V.str (PyData.tuple [.str "NoEntry", toPy (dOf vk)]).shown) = true := decide_eq_true rfl
        rw [hd]
        have S10 := S9.same e2
        exact k _ Vs Ps kl ((CF.sb mC.2 (List.mem_cons_self ..)).trans (CF.of e2)) ⟨S10.tr, S10.ok.mono (Nat.le_succ n), S10.lk, S10.kn, Nat.le_succ_of_le S10.len, S10.hms, S10.m3, S10.lb, S10.rg, S10.nkr, S10.nlr, S10.nlk⟩
end
end Abv
set_option Elab.async false
set_option linter.all false
set_option maxRecDepth 100000
set_option maxHeartbeats 4000000
/-! ## What a wrong call meets -/
namespace Abv
open PySem PySem.Spec PyProof.Rows L2
theorem passF {X : Cx} : Passes (L2.CX X.prog X.w) X (fun _ _ _ => False) := fun pins σ H s e s' I c => by
  obtain ⟨_, _, _, _, _, _, _, _, _, _, _, _, h⟩ := c
  exact h.elim
theorem eqVK {X : Cx} {K : PySem.W.Frag} (hu : X.A.units + 64 < cLine) (h : X.K = K := by rfl) : OpR X (compareOp .Eq) (rEqV K) := by
  subst h
  exact op_eqV hu
/-- a comprehension over a range, of texts that are told of -/
theorem lcZ {n : Nat} {g : TG} {te : TE} {vs : List Nat} {σ : L2.St} {H1 : Hp} {D : Addr} {Qd : Hp → Prop} (Z : Nat → Str → Prop) (nD : H1 D = none) (hn : n ≤ 100000)
    (hs : ∀ (i : Nat) H (S : VK), i < n → Same H1 H → (∀ t H', Same H H' → Z i t → S (.str t) H') → g (.int (i : Int)) (wipe σ vs) H fun σ2 H2 => wipe σ2 vs = wipe σ vs ∧ te σ2 H2 S)
    (hd : ∀ H (ts : List Str), Same H1 H → H D = some (.lst (ts.map V.str)) → ts.length = n → (∀ i t, ts[i]? = some t → Z i t) → Qd H) :
    ∃ W : Nat → Nat → Hp → Prop, (∃ m, W 0 m (upd H1 D (.lst []))) ∧ ∀ i m H, W i m H →
      ((Itr 0 n).stop i H ∧ Qd H) ∨ ((Itr 0 n).go i H ∧ ∃ Nx : Hp → Prop, (∀ H', Nx H' → ∃ m', m' < m ∧ W (i + 1) m' H') ∧ ∀ x H', (Itr 0 n).yld i H x H' → g x (wipe σ vs) H' fun σ2 H2 => wipe σ2 vs = wipe σ vs ∧ tYes σ2 H2 fun b H3 =>
        if b = true then te σ2 H3 fun y H4 => ∃ acc, H4 D = some (.lst acc) ∧ acc.length < sizeLine ∧ Nx (upd H4 D (.lst (acc ++ [y]))) else Nx H3) := by
  refine ⟨fun i m H => m = n - i ∧ i ≤ n ∧ Same H1 H ∧ ∃ ts : List Str, H D = some (.lst (ts.map V.str)) ∧ ts.length = i ∧ ∀ j t, ts[j]? = some t → Z j t, ⟨n, rfl, Nat.zero_le _, Same.new nD, [], upd_same, rfl, fun j t h => by cases h⟩, ?_⟩
  rintro i m H ⟨rfl, hi, hM, ts, hD, hl, hz⟩
  by_cases hlt : i < n
  · refine Or.inr ⟨hlt, fun H' => i + 1 ≤ n ∧ Same H1 H' ∧ ∃ ts : List Str, H' D = some (.lst (ts.map V.str)) ∧ ts.length = i + 1 ∧ ∀ j t, ts[j]? = some t → Z j t, fun H' q => ⟨n - (i + 1), by omega, rfl, q⟩, fun x H' hyl => ?_⟩
    obtain ⟨rfl, rfl⟩ := hyl
    rw [Int.zero_add]
    have h := hs i H' (fun y H4 => ∃ acc, H4 D = some (.lst acc) ∧ acc.length < sizeLine ∧ (i + 1 ≤ n ∧ Same H1 (upd H4 D (.lst (acc ++ [y]))) ∧ ∃ ts : List Str, (upd H4 D (.lst (acc ++ [y]))) D = some (.lst (ts.map V.str)) ∧ ts.length = i + 1 ∧ ∀ j t, ts[j]? = some t → Z j t)) hlt hM fun t H4 e ht => ?_
    · exact h
    refine ⟨ts.map V.str, e _ _ hD, by rw [List.length_map, hl, sizeLine_eq]; omega, hlt, Same.upd (hM.trans e) nD, ts ++ [t], ?_, by rw [List.length_append, hl]; rfl, fun j u hj => ?_⟩
    · rw [upd_same, List.map_append]
      rfl
    · by_cases hj2 : j < ts.length
      · rw [List.getElem?_append_left hj2] at hj
        exact hz j u hj
      · rw [List.getElem?_append_right (by omega)] at hj
        have : j - ts.length = 0 := by
          have := (List.getElem?_eq_some_iff.mp hj).1
          simp at this
          omega
        rw [this] at hj
        cases hj
        have : j = i := by omega
        rw [this]
        exact ht
  · have : i = n := by omega
    subst this
    exact Or.inl ⟨Nat.le_refl _, hd H ts hM hD hl hz⟩
theorem paired_strs {K : PySem.W.Frag} {H : Hp} : ∀ ts : List Str, Paired (EqV K H 1) (ts.map V.str) (ts.map V.str)
  | [] => .nil
  | t :: ts => .cons (.inl ⟨rfl, rfl⟩) (paired_strs ts)
/-- lists of the same texts are equal -/
theorem eq_strs {K : PySem.W.Frag} {H : Hp} {Q : VK} {a b : Addr} {ts us : List Str} (ha : H a = some (.lst (ts.map V.str))) (hb : H b = some (.lst (us.map V.str))) (e : ts = us) (q : Q (.bl true) H) : rEqV K (.ref a) (.ref b) H Q := by
  subst e
  exact ⟨1, by decide, .inl ⟨a, b, _, _, rfl, rfl, SqL.of ha, SqL.of hb, paired_strs ts⟩, q⟩
theorem ts_rep {ts : List Str} {n : Nat} {t : Str} (hl : ts.length = n) (h : ∀ (i : Nat) (u : Str), ts[i]? = some u → u = t) : ts = List.replicate n t := by
  refine List.eq_replicate_iff.mpr ⟨hl, fun b hb => ?_⟩
  obtain ⟨i, hi, e⟩ := List.mem_iff_getElem.mp hb
  exact h i b (by rw [List.getElem?_eq_getElem hi, e])
theorem same4 {H : Hp} {a b c d : Addr} {o1 o2 o3 o4 : HO} (h1 : H a = none) (h2 : upd H a o1 b = none) (h3 : upd (upd H a o1) b o2 c = none) (h4 : upd (upd (upd H a o1) b o2) c o3 d = none) : Same H (upd (upd (upd (upd H a o1) b o2) c o3) d o4) :=
  ((Same.new h1).trans (Same.new h2)).trans ((Same.new h3).trans (Same.new h4))
theorem ts_five : ∀ {ts : List Str}, ts.length = 5 → ∃ a b c d e, ts = [a, b, c, d, e]
  | [a, b, c, d, e], _ => ⟨a, b, c, d, e, rfl⟩
/-! ### the values, the keys, the labels that are wrong -/
def z61 : Str := ⟨(List.replicate 61 122).toArray⟩
theorem rep61 : repStr "z" 61 = z61 := by decide +kernel
def wV : List Dt := [.non, .int (10 ^ 30), .str z61, .str "it's", .lst [.int 1], .tup [.int 1], .int 1, .int 1]
def wK : List Dt := [.non, .bl true, .lst [.int 0], .str z61, .int 3]
def wL : List Dt := [.non, .str "a+b", .int 1]
structure WOk (d : Dt) : Prop where
  p : pln d = true
  sh : SeqAt.shaped (toPy d) = true
  nb : noB d = true
  rp : rprOk (.tuple [.str "InvalidKey", toPy d])
theorem wOk_of {d : Dt} (h : (pln d && (SeqAt.shaped (toPy d) && (noB d && ((PyData.tuple [.str "InvalidKey", toPy d]).showable && (!(PyData.tuple [.str "InvalidKey", toPy d]).hasDict && (decide ((PyData.tuple [.str "InvalidKey", toPy d]).shown.length ≤ 10000000) && decide ((PyData.tuple [.str "InvalidKey", toPy d]).depth ≤ 20))))))) = true) : WOk d := by
  obtain ⟨h1, h⟩ := Bool.and_eq_true_iff.mp h
  obtain ⟨h2, h⟩ := Bool.and_eq_true_iff.mp h
  obtain ⟨h3, h⟩ := Bool.and_eq_true_iff.mp h
  obtain ⟨h4, h⟩ := Bool.and_eq_true_iff.mp h
  obtain ⟨h5, h⟩ := Bool.and_eq_true_iff.mp h
  obtain ⟨h6, h7⟩ := Bool.and_eq_true_iff.mp h
  exact ⟨h1, h2, h3, h4, by simpa using h5, of_decide_eq_true h6, of_decide_eq_true h7⟩
theorem wV_ok : ∀ d ∈ wV, WOk d := by
  intro d hd
  simp only [wV, List.mem_cons, List.not_mem_nil, or_false] at hd
  rcases hd with rfl | rfl | rfl | rfl | rfl | rfl | rfl | rfl <;> exact wOk_of (by decide +kernel)
theorem wK_ok : ∀ d ∈ wK, WOk d := by
  intro d hd
  simp only [wK, List.mem_cons, List.not_mem_nil, or_false] at hd
  rcases hd with rfl | rfl | rfl | rfl | rfl <;> exact wOk_of (by decide +kernel)
theorem wV_one : ∀ d ∈ wV, (PyData.eqv (toPy d) (.int 1) = true ∧ d = .int 1) ∨ (PyData.eqv (toPy d) (.int 1) = false ∧ isAny d = false) := by
  intro d hd
  simp only [wV, List.mem_cons, List.not_mem_nil, or_false] at hd
  rcases hd with rfl | rfl | rfl | rfl | rfl | rfl | rfl | rfl
  · exact .inr (by decide +kernel)
  · exact .inr (by decide +kernel)
  · exact .inr (by decide +kernel)
  · exact .inr (by decide +kernel)
  · exact .inr (by decide +kernel)
  · exact .inr (by decide +kernel)
  · exact .inl ⟨by decide +kernel, rfl⟩
  · exact .inl ⟨by decide +kernel, rfl⟩
theorem wK_three : ∀ d ∈ wK, PyData.eqv (toPy d) (.int 3) = true ∨ (PyData.eqv (toPy d) (.int 3) = false ∧ isKey d = false) := by
  intro d hd
  simp only [wK, List.mem_cons, List.not_mem_nil, or_false] at hd
  rcases hd with rfl | rfl | rfl | rfl | rfl
  · exact .inr (by decide +kernel)
  · exact .inr (by decide +kernel)
  · exact .inr (by decide +kernel)
  · exact .inr (by decide +kernel)
  · exact .inl (by decide +kernel)
theorem wL_ok : ∀ d ∈ wL, lblArg d = true ∧ isLab d = false ∧ noB d = true ∧ noL d = true ∧ rprOk (.tuple [.str "InvalidLabel", toPy d]) := by
  intro d hd
  simp only [wL, List.mem_cons, List.not_mem_nil, or_false] at hd
  rcases hd with rfl | rfl | rfl <;> exact ⟨by decide +kernel, by decide +kernel, by decide +kernel, by decide +kernel, by decide +kernel, by decide +kernel, by decide +kernel, by decide +kernel⟩
/-- what stays while numbers are drawn -/
def RpS (K : PySem.W.Frag) (r : Addr) (H : Hp) (d : Dt) (v : V) : Prop := ∀ H', SB r H H' → Rp K (CL K) H' d v
theorem RpS.mr {K : PySem.W.Frag} {r : Addr} {H H' : Hp} {d : Dt} {v : V} (h : RpS K r H d v) (m : SB r H H') : RpS K r H' d v := fun H2 m2 => h H2 (m.trans m2)
theorem RpS.at_ {K : PySem.W.Frag} {r : Addr} {H : Hp} {d : Dt} {v : V} (h : RpS K r H d v) : Rp K (CL K) H d v := h H (SB.refl _ _)
theorem wV_rp {K : PySem.W.Frag} {r p1 p2 : Addr} {H : Hp} {v : V} (h1 : H p1 = some (.lst [.int 1])) (n1 : p1 ≠ r) (h2 : H p2 = some (.tup [.int 1])) (n2 : p2 ≠ r) (hv : v ∈ [V.non, .int (10 ^ Int.toNat 30), .str (repStr (Str.ofString "z") (Int.toNat 61)), .str "it's", .ref p1, .ref p2, .int 1, .int 1]) :
    ∃ d ∈ wV, RpS K r H d v := by
  have e : repStr (Str.ofString "z") (Int.toNat 61) = z61 := rep61
  rw [e] at hv
  simp only [List.mem_cons, List.not_mem_nil, or_false] at hv
  rcases hv with rfl | rfl | rfl | rfl | rfl | rfl | rfl | rfl
  · exact ⟨.non, by simp [wV], fun _ _ => rfl⟩
  · exact ⟨.int (10 ^ 30), by simp [wV], fun _ _ => rfl⟩
  · exact ⟨.str z61, by simp [wV], fun _ _ => rfl⟩
  · exact ⟨.str "it's", by simp [wV], fun _ _ => rfl⟩
  · exact ⟨.lst [.int 1], by simp [wV], fun H' m => Rp.lstI (SqL.of (m _ _ h1 n1)) (RpA.one rfl)⟩
  · exact ⟨.tup [.int 1], by simp [wV], fun H' m => Rp.tupI (SqT.of (m _ _ h2 n2)) (RpA.one rfl)⟩
  · exact ⟨.int 1, by simp [wV], fun _ _ => rfl⟩
  · exact ⟨.int 1, by simp [wV], fun _ _ => rfl⟩
theorem wK_rp {K : PySem.W.Frag} {r p1 : Addr} {H : Hp} {v : V} (h1 : H p1 = some (.lst [.int 0])) (n1 : p1 ≠ r) (hv : v ∈ [V.non, .bl true, .ref p1, .str (repStr (Str.ofString "z") (Int.toNat 61)), .int 3]) :
    ∃ d ∈ wK, RpS K r H d v := by
  have e : repStr (Str.ofString "z") (Int.toNat 61) = z61 := rep61
  rw [e] at hv
  simp only [List.mem_cons, List.not_mem_nil, or_false] at hv
  rcases hv with rfl | rfl | rfl | rfl | rfl
  · exact ⟨.non, by simp [wK], fun _ _ => rfl⟩
  · exact ⟨.bl true, by simp [wK], fun _ _ => rfl⟩
  · exact ⟨.lst [.int 0], by simp [wK], fun H' m => Rp.lstI (SqL.of (m _ _ h1 n1)) (RpA.one rfl)⟩
  · exact ⟨.str z61, by simp [wK], fun _ _ => rfl⟩
  · exact ⟨.int 3, by simp [wK], fun _ _ => rfl⟩
theorem wL_rp {K : PySem.W.Frag} {i : Nat} (hi : i < 3) : ∃ d ∈ wL, ∃ v : V, ([V.non, .str "a+b", .int 1] : List V)[i]? = some v ∧ ∀ H, Rp K (CL K) H d v := by
  have : i = 0 ∨ i = 1 ∨ i = 2 := by omega
  rcases this with rfl | rfl | rfl
  · exact ⟨.non, by simp [wL], _, rfl, fun _ => rfl⟩
  · exact ⟨.str "a+b", by simp [wL], _, rfl, fun _ => rfl⟩
  · exact ⟨.int 1, by simp [wL], _, rfl, fun _ => rfl⟩
theorem wErr_L {way : Nat} {dl dv dk : Dt} (h : isLab dl = false) : wErr way dl dv dk = some (("InvalidLabel" : Str), dl) := by
  have h1 : entErr dl dv dk = some (("InvalidLabel" : Str), dl) := by
    unfold entErr
    exact if_pos h
  have h2 : ent2Err dl dv = some (("InvalidLabel" : Str), dl) := by
    unfold ent2Err
    exact if_pos h
  have h3 : lblErr dl = some (("InvalidLabel" : Str), dl) := by
    unfold lblErr
    exact if_neg (by rw [h]; exact Bool.noConfusion)
  unfold wErr
  rw [h1, h2, h3]
  split
  · rfl
  · split <;> rfl
theorem wErr_V {way : Nat} {l : List Str} {dv dk : Dt} (h : isAny dv = false) (hw : way ≤ 3) : wErr way (.lab l) dv dk = some (("InvalidKey" : Str), dv) := by
  have h1 : entErr (.lab l) dv dk = some (("InvalidKey" : Str), dv) := by
    unfold entErr
    rw [if_neg (by simp [isLab]), if_pos h]
  have h2 : ent2Err (.lab l) dv = some (("InvalidKey" : Str), dv) := by
    unfold ent2Err
    rw [if_neg (by simp [isLab]), if_pos h]
  unfold wErr
  rw [h1, h2, if_pos hw]
  split <;> rfl
theorem wErr_K {way : Nat} {l : List Str} {dv dk : Dt} (h : isAny dv = true) (hk : isKey dk = false) (hw : way ≤ 1) : wErr way (.lab l) dv dk = some (("InvalidKey" : Str), dk) := by
  unfold wErr entErr
  rw [if_pos hw, if_neg (by simp [isLab]), if_neg (by rw [h]; exact Bool.noConfusion), if_pos hk]
theorem prs_ok {n1 n2 n3 n4 : Nat} {Vs : List (Str × V)} {Ps : PlL} {l : List Str} {t : Str} {ks : List V} (TO : TOk n1 n2 n3 n4 Vs Ps) (lo : LblOk l) (k1 : ks.Perm (keysOf (inner Ps t))) : ∀ e ∈ prs (inner Ps t) l ks, e.1 ∈ menuK ∧ LblOk e.2 := fun e he => by
  obtain ⟨v, m⟩ := e
  obtain ⟨m1, m2, _⟩ := mem_prs.mp he
  exact ⟨(keysOf_ok TO).2 v (k1.mem_iff.mp m1), belows_ok lo m2⟩
/-! ### the calls -/
section
variable {K : PySem.W.Frag} {H : Hp} {Q : VK} {E : XK} {x dv dp : Addr} {Vs : List (Str × V)} {Ps : PlL} {n : Nat} {l : List Str} {vl vv vk : V}
theorem go_ent (TA : TreeAt K H x dv dp Vs Ps) (TO : TOk n n n n Vs Ps) (hn : n < 60) (hl : Rp K (CL K) H (.lab l) vl) (lo : LblOk l) (hv : okV vv = true)
    (q : ∀ H' p ks ys, Same H H' → H p = none → H' p = some (.lst ys) → ks.Perm (keysOf (inner Ps (vtV vv))) → ks.Pairwise vle → RpA K (CL K) H' ((prs (inner Ps (vtV vv)) l ks).map dKL) ys → Q (.ref p) H') : spEnt K [.ref x, vl, vv] H Q E := by
  have hP : ∀ p ∈ Ps, p.2.2.length < 60 ∧ ∀ q ∈ p.2.2, kV q.1 ∈ menuK := fun p hp => ⟨Nat.lt_of_le_of_lt (TO.nI p hp) hn, TO.okK p hp⟩
  refine ⟨x, dp, .lab l, dOf vv, vl, vv, Ps, rfl, hl, okV_rp hv, rfl, pln_ok hv, TA.tp, hP, fun _ => ⟨hv, rfl, l, rfl, lo⟩, ?_⟩
  rw [ent2_none hv]
  rintro ms ⟨⟩ H' p ks ys e2 np hp k1 k2 hy
  rw [ents_prs] at hy
  exact q H' p ks ys e2 np hp k1 k2 hy
theorem go_steps (TA : TreeAt K H x dv dp Vs Ps) (TO : TOk n n n n Vs Ps) (hn : n < 60) (hl : Rp K (CL K) H (.lab l) vl) (lo : LblOk l) (hv : okV vv = true)
    (q : ∀ H' ks, Same H H' → ks.Perm (keysOf (inner Ps (vtV vv))) → ks.Pairwise vle → Q (.int (1 + ((prs (inner Ps (vtV vv)) l ks).length : Int))) H') : spSteps K [.ref x, vl, vv] H Q E := by
  have hP : ∀ p ∈ Ps, p.2.2.length < 60 ∧ ∀ q ∈ p.2.2, kV q.1 ∈ menuK := fun p hp => ⟨Nat.lt_of_le_of_lt (TO.nI p hp) hn, TO.okK p hp⟩
  refine ⟨x, dp, .lab l, dOf vv, vl, vv, Ps, rfl, hl, okV_rp hv, rfl, pln_ok hv, TA.tp, hP, fun _ => ⟨hv, rfl, l, rfl, lo⟩, ?_⟩
  rw [ent2_none hv]
  rintro ms ⟨⟩ H' ks e2 k1 k2
  rw [ents_prs, List.length_map]
  exact q H' ks e2 k1 k2
theorem go_dif (TA : TreeAt K H x dv dp Vs Ps) (TO : TOk n n n n Vs Ps) (hn : n < 60) (hl : Rp K (CL K) H (.lab l) vl) (lo : LblOk l)
    (q : ∀ H' p us, Same H H' → H p = none → H' p = some (.lst us) → us.Perm ((Vs.map (·.2)).filter (hasB Ps l)) → us.Pairwise vle → Q (.ref p) H') : spDif K [.ref x, vl] H Q E := by
  refine ⟨x, dv, dp, .lab l, vl, Vs, Ps, n, rfl, hl, rfl, TA, TO, hn, fun ms e => (by cases e; exact lo), ?_⟩
  show ∀ ms, _
  rintro ms ⟨⟩ H' p us e2 np hp u1 u2
  exact q H' p us e2 np hp u1 u2
end
section
variable {n1 n2 n3 n4 : Nat} {Vs : List (Str × V)} {Ps : PlL} {ms hi : List Str} {kl : List Ent}
theorem prs_len (O : TOk n1 n2 n3 n4 Vs Ps) (L : Lk ms Ps kl) (hms : LblOk ms) (hhi : hi ∈ belows ms) {v : V} (hv : v ∈ menuU) {ks : List V} (hk : ks.Perm (keysOf (inner Ps (vtV v)))) : (prs (inner Ps (vtV v)) hi ks).length ≤ kl.length := by
  have ndk : ks.Nodup := (hk.nodup_iff).mpr (keysOf_ok O).1
  have hhm := belows_ok hms hhi
  have ndm : ((kl.filter (inQ' hi v)).map fun e => (e.k, e.lb)).Nodup := by
    refine List.pairwise_map.mpr (List.Pairwise.imp_of_mem (fun {a b} ha hb h q => h ?_) (L.nd.filter _))
    injection q with q1 q2
    have f1 := (Bool.and_eq_true_iff.mp (List.mem_filter.mp ha).2).2
    have f2 := (Bool.and_eq_true_iff.mp (List.mem_filter.mp hb).2).2
    exact ent_ext q2 ((of_decide_eq_true f1).trans (of_decide_eq_true f2).symm) q1
  have hp := (List.perm_ext_iff_of_nodup (prs_nodup hhm ndk) ndm).mpr fun z => by
    rw [prs_iff O L hms hhi hv hk z, List.mem_map]
    constructor
    · rintro ⟨e, h1, h2, h3⟩
      exact ⟨e, List.mem_filter.mpr ⟨h1, h2⟩, h3⟩
    · rintro ⟨e, h1, h3⟩
      exact ⟨e, (List.mem_filter.mp h1).1, (List.mem_filter.mp h1).2, h3⟩
  rw [hp.length_eq, List.length_map]
  exact List.length_filter_le _ _
theorem ks_one {t : Str} {ks ks' : List V} (h : ks.Perm (keysOf (inner Ps t))) (s : ks.Pairwise vle) (h' : ks'.Perm (keysOf (inner Ps t))) (s' : ks'.Pairwise vle) : ks = ks' := perm_unique vle_antisymm (h.trans h'.symm) s s'
theorem us_one {us us' : List V} (h : us.Perm ((Vs.map (·.2)).filter (hasB Ps hi))) (s : us.Pairwise vle) (h' : us'.Perm ((Vs.map (·.2)).filter (hasB Ps hi))) (s' : us'.Pairwise vle) : us = us' := perm_unique vle_antisymm (h.trans h'.symm) s s'
end
end Abv
set_option Elab.async false
set_option linter.all false
set_option maxRecDepth 100000
set_option maxHeartbeats 8000000
/-! ## _law_wrong -/
namespace Abv
open PySem PySem.Spec PyProof.Rows L2
section
variable {P : Program} {w : World} {K : PySem.W.Frag} {mg : Str → Option Value} {base : Heap}
def spWrong (K : PySem.W.Frag) : Sp := fun vs H Q _ => ∃ (r x kA lA dv dp : Addr) (ms : List Str) (Vs : List (Str × V)) (Ps : PlL) (kl : List Ent) (n : Nat), vs = [.ref r, .ref x, .ref lA] ∧ StA K H x dv dp kA lA r ms Vs Ps kl n ∧ n < 60 ∧
  ∀ H', MR r H H' → Q (.bl true) H'
abbrev s__law_wrong : Stmt := top 61
abbrev n__law_wrong : List Str := ["_law_rng_here", "_law_tree", "_law_labels_here", "_law_value", "_law_lead", "_law_at", "_law_label", "_law_due", "_law_told", "_law_known", "_law_found", "_law_steps", "_law_way"]
theorem sc__law_wrong : FnScope n__law_wrong ["_law_rng_here", "_law_tree", "_law_labels_here"] (defScope s__law_wrong) := ⟨rfl, rfl, rfl, by decide +kernel, rfl, by decide +kernel, by decide +kernel⟩
theorem ok_wrong (T : Tx K mg) (Y : Ty K) (Z : Xs P K) (X : Xo K) (S : Spc K (CL K) "__repr__" (He.ma K (CL K) "__repr__")) (C_out : ClG CX0 P w K mg base 11 "_law_outcome" (spOut K)) : ClG CX0 P w K mg base 12 "_law_wrong" (spWrong K) := by
  have C__law_choice : Cl CX0 P w K mg base 2 "_law_choice" (spChoice K) := ok_choice T
  have C__law_draw : Cl CX0 P w K mg base 1 "_law_draw" (spDraw K) := ok_draw T
  have C__law_made_label : Cl CX0 P w K mg base 6 "_law_made_label" (sp_law_made_label K) := ok_law_made_label T Y
  have M_entries_at : FnR P w K mg base (L2.CX P w) 9 (He.ma K (CT K) "entries_at") (spEnt K) := ok_ent T Y Z
  have M_steps : FnR P w K mg base (L2.CX P w) 10 (He.ma K (CT K) "steps") (spSteps K) := ok_steps T Y Z
  have M_different : FnR P w K mg base (L2.CX P w) 10 (He.ma K (CT K) "different") (spDif K) := ok_dif T Y Z
  have FR : FnR P w K mg base CX0 1 (He.ma K (CL K) "__repr__") (spRpr K) := ok_lrepr T Y
  refine clG0 T.f__law_wrong sc__law_wrong (fun _ _ _ _ _ _ us hl => match us, hl with | [_, _, _], _ => rfl) (fun vs H Q E h => ?_) (fun f cdv A outer s H vs Q E hgu hr h => ?_)
  · obtain ⟨r, x, kA, lA, dv, dp, ms, Vs, Ps, kl, n, rfl, _⟩ := h
    rfl
  obtain ⟨r, x, kA, lA, dv, dp, ms, Vs, Ps, kl, n, rfl, ST, hn, k⟩ := h
  have hg2 : (A.deeper (envOfC "_law_wrong" (defScope s__law_wrong) s.heap.objs.size f cdv)).guards = some [] := hgu
  refine ⟨_, PSs.nox (pss_cons (ps_set (i := 3) sc__law_wrong.nd rfl (Or.inr rfl) (pe_cl C__law_choice hr (by decide) pass0 rfl (pa_cons (pv 0) (pa_cons (pe_lst (pa_cons pe_non (pa_cons (pe_op op_pow pe_int pe_int) (pa_cons (pe_op op_repS pe_str pe_int) (pa_cons pe_str (pa_cons (pe_lst (pa_cons pe_int pa_nil)) (pa_cons (pe_tup (pa_cons pe_int pa_nil)) (pa_cons pe_int (pa_cons pe_int pa_nil))))))))) pa_nil))))
      (pss_cons (ps_asg (pe_tup (pa_cons (pe_cl C__law_choice hr (by decide) pass0 rfl (pa_cons (pv 0) (pa_cons (pe_lst (pa_cons pe_non (pa_cons pe_bl (pa_cons (pe_lst (pa_cons pe_int pa_nil)) (pa_cons (pe_op op_repS pe_str pe_int) (pa_cons pe_int pa_nil)))))) pa_nil))) (pa_cons (pe_cl C__law_draw hr (by decide) pass0 rfl (pa_cons (pv 0) (pa_cons pe_int pa_nil))) pa_nil))) (pg_tup rfl (pgs_cons (pg_name (i := 4) sc__law_wrong.nd rfl (Or.inr rfl)) (pgs_cons (pg_name (i := 5) sc__law_wrong.nd rfl (Or.inl rfl)) pgs_nil))))
      (pss_cons (ps_set (i := 6) sc__law_wrong.nd rfl (Or.inr rfl) (pe_ifExp (pt_cmpR op_lt (pv 5) pe_int (nomark _)) (pe_ix (ixL (K := K)) (pe_lst (pa_cons pe_non (pa_cons pe_str (pa_cons pe_int pa_nil)))) (pv 5) (fun _ _ => rfl)) (pe_cl C__law_made_label hr (by decide) pass0 rfl (pa_cons (pe_cl C__law_choice hr (by decide) pass0 rfl (pa_cons (pv 0) (pa_cons (pv 2) pa_nil))) pa_nil))))
      (pss_cons (ps_set (i := 7) sc__law_wrong.nd rfl (Or.inl rfl) (pe_ifExp (pt_cmpR op_lt (pv 5) pe_int (nomark _)) (pe_tup (pa_cons pe_str (pa_cons (pv 6) pa_nil))) (pe_tup (pa_cons pe_str (pa_cons (pe_ifExp (pt_cmpR (eqD (K := K) hr.units) (pv 3) pe_int (nomark _)) (pv 4) (pv 3)) pa_nil)))))
      (pss_cons (ps_if (PW.pt (pw_and (pt_cmpR op_gt (pv 5) pe_int (nomark _)) (pw_and (pt_cmpR (eqD (K := K) hr.units) (pv 3) pe_int (nomark _)) (pw_and1 (pt_cmpR (eqD (K := K) hr.units) (pv 4) pe_int (nomark _)))))) (pss_one (ps_ret pe_bl)) pss_nil)
      (pss_cons (ps_setLc (i := 8) (own := [("_law_way", 12)]) rfl sc__law_wrong.nd rfl rfl (sw_true rfl rfl rfl (by decide +kernel)) (pi_range1 rfl T.b_range (pa_cons pe_int pa_nil)) (blkOk_by (own := [("_law_way", 12)]) (N := n__law_wrong) (sc := defScope s__law_wrong) (by decide +kernel)) (fun _ _ _ _ _ => (pg_name (i := 12) sc__law_wrong.nd rfl (Or.inl rfl))) (fun _ _ _ _ _ => pts_nil) (fun _ _ _ _ _ => (pe_clg C_out (by exact hg2) hr (by decide) pass0 rfl (pa_cons (pv 1) (pa_cons (pv 12) (pa_cons (pv 6) (pa_cons (pv 3) (pa_cons (pv 4) pa_nil))))))))
      (pss_cons (ps_if (pt_cmpR op_lt (pv 5) pe_int (nomark _)) (pss_one (ps_ret (pe_cmpR (eqVK (K := K) hr.units) (pv 8) (pe_op op_rep (pe_lst (pa_cons (pe_callB (id := "repr") (rprD (K := K) (k := 11) (by exact hg2) (by exact hr)) (by rfl) T.b_repr (by decide +kernel) (pa_cons (pv 7) pa_nil)) pa_nil)) pe_int) (nomark _)))) pss_nil)
      (pss_cons (ps_set (i := 9) sc__law_wrong.nd rfl (Or.inl rfl) (pe_callB (id := "repr") (rprD (K := K) (k := 11) (by exact hg2) (by exact hr)) (by rfl) T.b_repr (by decide +kernel) (pa_cons (pe_tup (pa_cons pe_str (pa_cons (pe_methR (pv 1) Y.cT Y.different.1 M_different (hr.mono (by decide)) passF (pa_cons (pv 6) pa_nil)) pa_nil))) pa_nil)))
      (pss_cons (ps_if (pt_cmpR (neD (K := K) hr.units) (pv 3) pe_int (nomark _)) (pss_one (ps_ret (pe_cmpR (eqVK (K := K) hr.units) (pv 8) (pe_op op_cat (pe_op op_rep (pe_lst (pa_cons (pe_callB (id := "repr") (rprD (K := K) (k := 11) (by exact hg2) (by exact hr)) (by rfl) T.b_repr (by decide +kernel) (pa_cons (pv 7) pa_nil)) pa_nil)) pe_int) (pe_lst (pa_cons (pv 9) pa_nil))) (nomark _)))) pss_nil)
      (pss_cons (ps_set (i := 10) sc__law_wrong.nd rfl (Or.inl rfl) (pe_callB (id := "repr") (rprE (K := K) S FR (by exact hg2) (hr.mono (by decide))) (by rfl) T.b_repr (by decide +kernel) (pa_cons (pe_tup (pa_cons pe_str (pa_cons (pe_methR (pv 1) Y.cT Y.entries.1 M_entries_at (hr.mono (by decide)) passF (pa_cons (pv 6) (pa_cons (pv 3) pa_nil))) pa_nil))) pa_nil)))
      (pss_cons (ps_set (i := 11) sc__law_wrong.nd rfl (Or.inl rfl) (pe_callB (id := "repr") (rprD (K := K) (k := 11) (by exact hg2) (by exact hr)) (by rfl) T.b_repr (by decide +kernel) (pa_cons (pe_tup (pa_cons pe_str (pa_cons (pe_methR (pv 1) Y.cT Y.steps.1 M_steps (hr.mono (by decide)) passF (pa_cons (pv 6) (pa_cons (pv 3) pa_nil))) pa_nil))) pa_nil)))
      (pss_one (ps_ret (pe_cmpR (eqVK (K := K) hr.units) (pv 8) (pe_op op_cat (pe_op op_rep (pe_lst (pa_cons (pe_callB (id := "repr") (rprD (K := K) (k := 11) (by exact hg2) (by exact hr)) (by rfl) T.b_repr (by decide +kernel) (pa_cons (pv 7) pa_nil)) pa_nil)) pe_int) (pe_lst (pa_cons (pv 10) (pa_cons (pv 11) (pa_cons (pv 9) pa_nil))))) (nomark _))))))))))))))), ?_⟩
  refine ⟨_, rfl, _, _, rfl, rfl, ⟨by decide, by decide, by decide⟩, _, _, rfl, rfl, by decide, by decide, by decide, szl (Nat.le_of_ble_eq_true rfl), fun p1 hp1 => ⟨szl (Nat.le_of_ble_eq_true rfl), fun p2 hp2 => ⟨szl (Nat.le_of_ble_eq_true rfl), fun p hp => menu_go (K := K) (E := E0) ?_ (by simp) (by simp) (fun vv H1 hvv m1 => ?_) p hp⟩⟩⟩
  · exact (ST.rg.same (Same.new hp1)).same (Same.new hp2)
  have e1 := (Same.new (u := .lst [.int 1]) hp1).trans (Same.new (u := .tup [.int 1]) hp2)
  have h1 := (Same.new (u := .tup [.int 1]) hp2) _ _ (upd_same (H := H) (a := p1) (o := .lst [.int 1]))
  have h2 := upd_same (H := upd H p1 (.lst [.int 1])) (a := p2) (o := .tup [.int 1])
  have n1 := ST.rg.ne hp1
  have n2 := (ST.rg.same (Same.new (u := .lst [.int 1]) hp1)).ne hp2
  generalize upd (upd H p1 (.lst [.int 1])) p2 (.tup [.int 1]) = Hx at hp m1 e1 h1 h2
  obtain ⟨d, hd, rd⟩ := wV_rp (K := K) (m1.2 _ _ h1 n1) n1 (m1.2 _ _ h2 n2) n2 hvv
  have mA := (MR.of e1 ST.rg).trans m1
  clear h1 h2 n1 n2 e1 hp hp1 hp2 hvv m1
  have S1 := ST.mr mA
  refine ⟨_, rfl, szl (Nat.le_of_ble_eq_true rfl), fun q1 hq1 => ⟨_, _, rfl, rfl, by decide, by decide, by decide, szl (Nat.le_of_ble_eq_true rfl), fun q hq => menu_go (K := K) (E := E0) ?_ (by simp) (by simp) (fun vk H2 hvk m2 => ⟨_, rfl, r, 6, rfl, by decide, by decide, m2.1, fun i H3 hi m3 => ⟨szl (Nat.le_of_ble_eq_true rfl), fun u hu => ⟨u, _, rfl, SqT.of upd_same, rfl, _, _, rfl, _, _, rfl, rfl, ?_⟩⟩⟩) q hq⟩⟩
  · exact S1.rg.same (Same.new hq1)
  have e1 := Same.new (u := .lst [.int 0]) hq1
  have h1 := upd_same (H := H1) (a := q1) (o := .lst [.int 0])
  have n1 := S1.rg.ne hq1
  generalize upd H1 q1 (.lst [.int 0]) = Hx at hq m2 e1 h1
  obtain ⟨dk, hdk, rk⟩ := wK_rp (K := K) (m2.2 _ _ h1 n1) n1 hvk
  have e3 := Same.new (u := .tup [vk, .int (i : Int)]) hu
  have mB := ((MR.of e1 S1.rg).trans m2).trans (m3.trans (MR.of e3 m3.1))
  have rk := rk.mr (m3.2.trans (SB.of e3))
  have rd := rd.mr mB.2
  have mA := mA.trans mB
  clear h1 n1 hq hq1 hvk e1 m2 m3 mB S1
  generalize upd H3 u (.tup [vk, .int (i : Int)]) = H4 at rk rd mA
  have S4 := ST.mr mA
  clear e3 hu
  have wd := wV_ok d hd
  have wdk := wK_ok dk hdk
  by_cases hi3 : i < 3
  · have d3 : decide ((i : Int) < 3) = true := decide_eq_true (by omega)
    obtain ⟨dl, hdl, vl, hat, rl⟩ := wL_rp (K := K) hi3
    obtain ⟨L1, L2', L3, L4, L5⟩ := wL_ok dl hdl
    refine ⟨_, rfl, _, _, rfl, rfl, _, rfl, ?_⟩
    rw [d3]
    refine iteT ⟨szl (Nat.le_of_ble_eq_true rfl), fun la hla => ⟨_, rfl, la, _, (i : Int), vl, rfl, rfl, SqL.of upd_same, atI_nat hat, ?_⟩⟩
    have e5 := Same.new (u := .lst [V.non, .str "a+b", .int 1]) hla
    generalize upd H4 la (.lst [V.non, .str "a+b", .int 1]) = H5 at e5
    refine ⟨_, rfl, _, _, rfl, rfl, _, rfl, ?_⟩
    rw [d3]
    refine iteT ⟨_, rfl, szl (Nat.le_of_ble_eq_true rfl), fun td htd => ?_⟩
    have e6 := e5.trans (Same.new (u := .tup [V.str "InvalidLabel", vl]) htd)
    have ht6 := upd_same (H := H5) (a := td) (o := .tup [V.str "InvalidLabel", vl])
    show (fun H6 => _) (upd H5 td (.tup [V.str "InvalidLabel", vl]))
    generalize upd H5 td (.tup [V.str "InvalidLabel", vl]) = H6 at e6 ht6
    have S6 := S4.same e6
    have rd := rd.mr (SB.of e6)
    have rk := rk.mr (SB.of e6)
    have mA := mA.trans (MR.of e6 S4.rg)
    clear e5 e6 htd hla S4
    refine ⟨_, rfl, _, _, rfl, rfl, _, rfl, ?_⟩
    have d2 : decide ((2 : Int) < (i : Int)) = false := decide_eq_false (by omega)
    rw [d2]
    refine iteF (iteF ?_)
    refine ⟨5, rfl, by decide, by decide, fun D nD => ?_⟩
    refine lcZ (n := 5) (fun _ t => t = tldT "InvalidLabel" dl) nD (by decide) (fun way H7 SS hw e7 hS => ⟨rfl, ?_⟩) (fun H7 ts e7 hD hl ht => ?_)
    · refine ⟨_, rfl, _, rfl, _, rfl, _, rfl, _, rfl, ?_⟩
      dsimp only [tNil]
      have S7 := S6.same e7
      exact out_err X S7.tr S7.ok hn (by omega) (rl _) (Rp.same e7 _ _ rd.at_) (Rp.same e7 _ _ rk.at_) L1 wd.p wdk.p (fun ms e => by rw [e] at L2'; cases L2') (wErr_L L2') (by decide +kernel) L3 L5 (fun H8 e8 => hS _ _ e8 rfl)
    refine ⟨_, rfl, _, _, rfl, rfl, _, rfl, ?_⟩
    rw [d3]
    refine iteT ?_
    refine ⟨_, rfl, _, rfl, .ref td, _, rfl, .tup (SqT.of (e7 _ _ ht6)) (.cons (.str _) (.cons (Rp.dp _ _ L3 (rl _)) .nil)), L5, szl (Nat.le_of_ble_eq_true rfl), fun pl hpl => ⟨pl, 5, _, rfl, rfl, upd_same, by decide, by decide, szl (Nat.le_of_ble_eq_true rfl), fun pr hpr => ?_⟩⟩
    have e8 := (Same.new (u := .lst [V.str (PyData.tuple [.str "InvalidLabel", toPy dl]).shown]) hpl).trans (Same.new (u := .lst (List.replicate (Int.toNat 5) [V.str (PyData.tuple [.str "InvalidLabel", toPy dl]).shown]).flatten) hpr)
    exact eq_strs (us := List.replicate 5 (tldT "InvalidLabel" dl)) (e8 _ _ hD) upd_same (ts_rep hl ht) (k _ (mA.trans (MR.of (e7.trans e8) S6.rg)))
  · have d3 : decide ((i : Int) < 3) = false := decide_eq_false (by omega)
    have d2 : decide ((2 : Int) < (i : Int)) = true := decide_eq_true (by omega)
    obtain ⟨ls, hls, rls⟩ := S4.lb
    have lls := rls.len
    rw [List.length_map] at lls
    have l8 := belows_8 S4.hms S4.m3
    have l0 : 0 < (belows ms).length := List.length_pos_of_mem belows_pos
    refine ⟨_, rfl, _, _, rfl, rfl, _, rfl, ?_⟩
    rw [d3]
    refine iteF ⟨_, rfl, _, rfl, r, lA, ls, rfl, SqL.of hls, S4.nlr, by omega, by omega, S4.rg, fun v5 H5 hv5 m5 => ?_⟩
    obtain ⟨l, hlb, rv5⟩ : ∃ l, l ∈ belows ms ∧ Rp K (CL K) H4 (tS l) v5 := by
      obtain ⟨j, hj, rfl⟩ := List.mem_iff_getElem.mp hv5
      obtain ⟨d, h1, h2⟩ := rls.get (List.getElem?_eq_getElem hj)
      rw [List.getElem?_map, Option.map_eq_some_iff] at h1
      obtain ⟨l, hl, rfl⟩ := h1
      exact ⟨l, List.mem_of_getElem? hl, h2⟩
    have lo := belows_ok S4.hms hlb
    refine ⟨v5, l, rfl, Rp.kt (MR.kt S4.rg m5) _ _ (noL_tS l) rv5, lo, fun lx H6 e6 hlx => ?_⟩
    have mB := m5.trans (MR.of e6 m5.1)
    have S6 := S4.mr mB
    have rd := rd.mr mB.2
    have rk := rk.mr mB.2
    have mA := mA.trans mB
    clear m5 e6 mB rv5 hv5 rls hls lls S4
    rcases wV_one d hd with ⟨q1, rfl⟩ | ⟨q0, na⟩
    · have hvv : vv = .int 1 := rd.at_
      subst hvv
      have ov1 : okV (.int 1) = true := by decide +kernel
      have mu1 : V.int 1 ∈ menuU := by decide +kernel
      have di : Dp K H6 (.int 1) (.int 1) := .int _
      refine ⟨_, rfl, _, _, rfl, rfl, _, rfl, ?_⟩
      rw [d3]
      refine iteF ⟨_, rfl, .int 1, .int 1, .int _, .int _, by decide +kernel, by decide +kernel, _, rfl, iteT ⟨_, rfl, szl (Nat.le_of_ble_eq_true rfl), fun td htd => ?_⟩⟩
      have e7 := Same.new (u := .tup [V.str "InvalidKey", vk]) htd
      have ht7 := upd_same (H := H6) (a := td) (o := .tup [V.str "InvalidKey", vk])
      show (fun H7 => _) (upd H6 td (.tup [V.str "InvalidKey", vk]))
      generalize upd H6 td (.tup [V.str "InvalidKey", vk]) = H7 at e7 ht7
      have S7 := S6.same e7
      have rk := rk.mr (SB.of e7)
      have hlx := Rp.same e7 _ _ hlx
      have mA := mA.trans (MR.of e7 S6.rg)
      clear e7 htd S6 rd di
      refine ⟨_, rfl, _, _, rfl, rfl, _, rfl, ?_⟩
      rw [d2]
      refine iteT ⟨_, rfl, .int 1, .int 1, .int _, .int _, by decide +kernel, by decide +kernel, _, rfl, iteT ⟨_, rfl, toPy dk, .int 3, Rp.dp _ _ wdk.nb rk.at_, .int _, wdk.sh, by decide +kernel, _, rfl, ?_⟩⟩
      rcases wK_three dk hdk with q3 | ⟨q3, nk⟩
      · rw [q3]
        exact iteT (k _ mA)
      rw [q3]
      refine iteF ?_
      refine ⟨5, rfl, by decide, by decide, fun D nD => ?_⟩
      have hsz : ∀ ks, ks.Perm (keysOf (inner Ps (vtV (.int 1)))) → (prs (inner Ps (vtV (.int 1))) l ks).length ≤ 1000 := fun ks hk => by
        have h1 := prs_len S7.ok S7.lk S7.hms hlb mu1 hk
        have h2 := S7.len
        omega
      refine lcZ (n := 5) (fun way t => (way ≤ 1 → t = tldT "InvalidKey" dk) ∧ (way = 2 → ∃ ks, ks.Perm (keysOf (inner Ps (vtV (.int 1)))) ∧ ks.Pairwise vle ∧ t = doneT (prs (inner Ps (vtV (.int 1))) l ks)) ∧
        (way = 3 → ∃ ks, ks.Perm (keysOf (inner Ps (vtV (.int 1)))) ∧ ks.Pairwise vle ∧ t = donT (.int (1 + ((prs (inner Ps (vtV (.int 1))) l ks).length : Int)))) ∧
        (way = 4 → ∃ us, us.Perm ((Vs.map (·.2)).filter (hasB Ps l)) ∧ us.Pairwise vle ∧ t = donT (vsD us))) nD (by decide) (fun way H8 SS hw e8 hS => ⟨rfl, ?_⟩) (fun H8 ts e8 hD hl ht => ?_)
      · have S8 := S7.same e8
        have hlx8 := Rp.same e8 _ _ hlx
        refine ⟨_, rfl, _, rfl, _, rfl, _, rfl, _, rfl, ?_⟩
        dsimp only [tNil]
        have cs : way = 0 ∨ way = 1 ∨ way = 2 ∨ way = 3 ∨ way = 4 := by omega
        have er : ∀ way : Nat, way ≤ 1 → (∀ t H', Same H8 H' → ((way ≤ 1 → t = tldT "InvalidKey" dk) ∧ (way = 2 → ∃ ks, ks.Perm (keysOf (inner Ps (vtV (.int 1)))) ∧ ks.Pairwise vle ∧ t = doneT (prs (inner Ps (vtV (.int 1))) l ks)) ∧
            (way = 3 → ∃ ks, ks.Perm (keysOf (inner Ps (vtV (.int 1)))) ∧ ks.Pairwise vle ∧ t = donT (.int (1 + ((prs (inner Ps (vtV (.int 1))) l ks).length : Int)))) ∧
            (way = 4 → ∃ us, us.Perm ((Vs.map (·.2)).filter (hasB Ps l)) ∧ us.Pairwise vle ∧ t = donT (vsD us))) → SS (.str t) H') → spOut K [.ref x, .int (way : Int), .ref lx, .int 1, vk] H8 SS E0 := fun way hw hS =>
          out_err X S8.tr S8.ok hn (by omega) hlx8 (show Rp K (CL K) H8 (.int 1) (.int 1) from rfl) (Rp.same e8 _ _ rk.at_) rfl rfl wdk.p (fun ms e => by cases e; exact lo) (wErr_K (by decide +kernel) nk hw) (by decide +kernel) wdk.nb wdk.rp (fun H9 e9 => hS _ _ e9 ⟨fun _ => rfl, fun z => by omega, fun z => by omega, fun z => by omega⟩)
        rcases cs with rfl | rfl | rfl | rfl | rfl
        · exact er 0 (by decide) hS
        · exact er 1 (by decide) hS
        · exact out_ent S8.tr S8.ok hn hlx8 lo ov1 hsz fun H9 ks e9 k1 k2 => hS _ _ e9 ⟨fun z => by omega, fun _ => ⟨ks, k1, k2, rfl⟩, fun z => by omega, fun z => by omega⟩
        · exact out_steps S8.tr S8.ok hn hlx8 lo ov1 hsz fun H9 ks e9 k1 k2 => hS _ _ e9 ⟨fun z => by omega, fun z => by omega, fun _ => ⟨ks, k1, k2, rfl⟩, fun z => by omega⟩
        · exact out_dif S8.tr S8.ok hn hlx8 lo fun H9 us e9 u1 u2 => hS _ _ e9 ⟨fun z => by omega, fun z => by omega, fun z => by omega, fun _ => ⟨us, u1, u2, rfl⟩⟩
      have S8 := S7.same e8
      have hlx8 := Rp.same e8 _ _ hlx
      have ht8 := e8 _ _ ht7
      have rk8 := rk.mr (SB.of e8)
      have mA := mA.trans (MR.of e8 S7.rg)
      refine ⟨_, rfl, _, _, rfl, rfl, _, rfl, ?_⟩
      rw [d3]
      refine iteF ?_
      obtain ⟨dx, fs, hx, f1, f2, f3, f4, f5⟩ := tree_fld S8.tr
      refine ⟨_, rfl, x, dx, fs, rfl, hx, f5, _, rfl, ?_⟩
      dsimp only [tNil]
      refine go_dif S8.tr S8.ok hn hlx8 lo fun H9 pu us e9 npu hpu u1 u2 => ?_
      obtain ⟨mU, lU⟩ := dif_menu S8.ok u1
      refine ⟨szl (Nat.le_of_ble_eq_true rfl), fun pt hpt => ?_⟩
      have e10 := Same.new (u := .tup [V.str "done", .ref pu]) hpt
      refine ⟨_, _, rfl, .tup (SqT.of upd_same) (.cons (.str _) (.cons (.lst (SqL.of (e10 _ _ hpu)) (dp_vals fun v hv => menuV_ok _ (mU v hv))) .nil)), (rprOk_vs mU (by omega)).2, ?_⟩
      show (fun H10 => _) (upd H9 pt (.tup [V.str "done", .ref pu]))
      have e10 := e9.trans e10
      generalize upd H9 pt (.tup [V.str "done", .ref pu]) = H10 at e10
      have S10 := S8.same e10
      have hlx10 := Rp.same e10 _ _ hlx8
      refine ⟨_, rfl, .int 1, .int 1, .int _, .int _, by decide +kernel, by decide +kernel, _, rfl, iteF ?_⟩
      obtain ⟨dx, fs, hx, f1, f2, f3, f4, f5⟩ := tree_fld S10.tr
      refine ⟨_, rfl, x, dx, fs, rfl, hx, f3, _, rfl, _, rfl, ?_⟩
      dsimp only [tNil]
      refine go_ent S10.tr S10.ok hn hlx10 lo ov1 fun H11 pe ks ys e11 npe hpe k1 k2 hy => ?_
      refine ⟨szl (Nat.le_of_ble_eq_true rfl), fun pt2 hpt2 => ?_⟩
      have e12 := Same.new (u := .tup [V.str "done", .ref pe]) hpt2
      refine ⟨pt2, pe, ys, _, rfl, upd_same, e12 _ _ hpe, RpA.same e12 _ _ hy, prs_ok S8.ok lo k1, hsz ks k1, fun H13 e13 => ?_⟩
      have e13a := (e11.trans e12).trans e13
      have S13 := S10.same e13a
      have hlx13 := Rp.same e13a _ _ hlx10
      have e13 := e10.trans e13a
      refine ⟨_, rfl, x, dx, fs, rfl, e13a _ _ hx, f4, _, rfl, _, rfl, ?_⟩
      dsimp only [tNil]
      refine go_steps S13.tr S13.ok hn hlx13 lo ov1 fun H14 ks' e14 k1' k2' => ?_
      have hz' := hsz ks' k1'
      refine ⟨szl (Nat.le_of_ble_eq_true rfl), fun pt3 hpt3 => ?_⟩
      have e15 := Same.new (u := .tup [V.str "done", .int (1 + ((prs (inner Ps (vtV (.int 1))) l ks').length : Int))]) hpt3
      refine ⟨_, _, rfl, .tup (SqT.of upd_same) (.cons (.str _) (.cons (.int _) .nil)), rprOk_int (by omega) (by omega), ?_⟩
      show (fun H10 => _) (upd H14 pt3 (.tup [V.str "done", .int (1 + ((prs (inner Ps (vtV (.int 1))) l ks').length : Int))]))
      have e15 := e13.trans (e14.trans e15)
      generalize upd H14 pt3 (.tup [V.str "done", .int (1 + ((prs (inner Ps (vtV (.int 1))) l ks').length : Int))]) = H15 at e15
      refine ⟨_, rfl, _, rfl, .ref td, _, rfl, .tup (SqT.of (e15 _ _ ht8)) (.cons (.str _) (.cons (Rp.dp _ _ wdk.nb (Rp.same e15 _ _ rk8.at_)) .nil)), wdk.rp, szl (Nat.le_of_ble_eq_true rfl), fun pl hpl => ⟨pl, 2, _, rfl, rfl, upd_same, by decide, by decide, szl (Nat.le_of_ble_eq_true rfl), fun pr hpr => ⟨_, rfl, _, rfl, _, rfl, szl (Nat.le_of_ble_eq_true rfl), fun pk hpk =>
        ⟨pr, pk, _, _, rfl, rfl, (Same.new hpk) _ _ upd_same, upd_same, szl (Nat.le_of_ble_eq_true rfl), fun pc hpc => ?_⟩⟩⟩⟩
      have e17 := fun o => e15.trans (same4 (o4 := o) hpl hpr hpk hpc)
      obtain ⟨t0, t1, t2, t3, t4, rfl⟩ := ts_five hl
      have r0 := (ht 0 t0 rfl).1 (by decide)
      have r1 := (ht 1 t1 rfl).1 (by decide)
      obtain ⟨ks2, a1, a2, r2⟩ := (ht 2 t2 rfl).2.1 rfl
      obtain ⟨ks3, a3, a4, r3⟩ := (ht 3 t3 rfl).2.2.1 rfl
      obtain ⟨us4, a5, a6, r4⟩ := (ht 4 t4 rfl).2.2.2 rfl
      rw [ks_one a1 a2 k1 k2] at r2
      rw [ks_one a3 a4 k1' k2'] at r3
      rw [us_one a5 a6 u1 u2] at r4
      refine eq_strs (ts := [t0, t1, t2, t3, t4]) (us := [tldT "InvalidKey" dk, tldT "InvalidKey" dk, doneT (prs (inner Ps (vtV (.int 1))) l ks), donT (.int (1 + ((prs (inner Ps (vtV (.int 1))) l ks').length : Int))), donT (vsD us)]) (e17 _ _ _ hD) upd_same (by rw [r0, r1, r2, r3, r4]) (k _ (mA.trans (MR.of (e17 _) S8.rg)))
    · have dd := Rp.dp _ _ wd.nb rd.at_
      refine ⟨_, rfl, _, _, rfl, rfl, _, rfl, ?_⟩
      rw [d3]
      refine iteF ⟨_, rfl, toPy d, .int 1, dd, .int _, wd.sh, by decide +kernel, _, rfl, ?_⟩
      rw [q0]
      refine iteF ⟨_, rfl, szl (Nat.le_of_ble_eq_true rfl), fun td htd => ?_⟩
      have e7 := Same.new (u := .tup [V.str "InvalidKey", vv]) htd
      have ht7 := upd_same (H := H6) (a := td) (o := .tup [V.str "InvalidKey", vv])
      show (fun H7 => _) (upd H6 td (.tup [V.str "InvalidKey", vv]))
      generalize upd H6 td (.tup [V.str "InvalidKey", vv]) = H7 at e7 ht7
      have S7 := S6.same e7
      have rk := rk.mr (SB.of e7)
      have rd := rd.mr (SB.of e7)
      have hlx := Rp.same e7 _ _ hlx
      have mA := mA.trans (MR.of e7 S6.rg)
      clear e7 htd S6 dd
      refine ⟨_, rfl, _, _, rfl, rfl, _, rfl, ?_⟩
      rw [d2]
      refine iteT ⟨_, rfl, toPy d, .int 1, Rp.dp _ _ wd.nb rd.at_, .int _, wd.sh, by decide +kernel, _, rfl, ?_⟩
      rw [q0]
      refine iteF (iteF ?_)
      refine ⟨5, rfl, by decide, by decide, fun D nD => ?_⟩
      refine lcZ (n := 5) (fun way t => (way ≤ 3 → t = tldT "InvalidKey" d) ∧ (way = 4 → ∃ us, us.Perm ((Vs.map (·.2)).filter (hasB Ps l)) ∧ us.Pairwise vle ∧ t = donT (vsD us))) nD (by decide) (fun way H8 SS hw e8 hS => ⟨rfl, ?_⟩) (fun H8 ts e8 hD hl ht => ?_)
      · have S8 := S7.same e8
        have hlx8 := Rp.same e8 _ _ hlx
        refine ⟨_, rfl, _, rfl, _, rfl, _, rfl, _, rfl, ?_⟩
        dsimp only [tNil]
        by_cases h4 : way = 4
        · subst h4
          exact out_dif S8.tr S8.ok hn hlx8 lo fun H9 us e9 u1 u2 => hS _ _ e9 ⟨fun z => by omega, fun _ => ⟨us, u1, u2, rfl⟩⟩
        · exact out_err X S8.tr S8.ok hn (by omega) hlx8 (Rp.same e8 _ _ rd.at_) (Rp.same e8 _ _ rk.at_) rfl wd.p wdk.p (fun ms e => by cases e; exact lo) (wErr_V na (by omega)) (by decide +kernel) wd.nb wd.rp (fun H9 e9 => hS _ _ e9 ⟨fun _ => rfl, fun z => by omega⟩)
      have S8 := S7.same e8
      have hlx8 := Rp.same e8 _ _ hlx
      have ht8 := e8 _ _ ht7
      have rd8 := rd.mr (SB.of e8)
      have mA := mA.trans (MR.of e8 S7.rg)
      refine ⟨_, rfl, _, _, rfl, rfl, _, rfl, ?_⟩
      rw [d3]
      refine iteF ?_
      obtain ⟨dx, fs, hx, f1, f2, f3, f4, f5⟩ := tree_fld S8.tr
      refine ⟨_, rfl, x, dx, fs, rfl, hx, f5, _, rfl, ?_⟩
      dsimp only [tNil]
      refine go_dif S8.tr S8.ok hn hlx8 lo fun H9 pu us e9 npu hpu u1 u2 => ?_
      obtain ⟨mU, lU⟩ := dif_menu S8.ok u1
      refine ⟨szl (Nat.le_of_ble_eq_true rfl), fun pt hpt => ?_⟩
      have e10 := Same.new (u := .tup [V.str "done", .ref pu]) hpt
      refine ⟨_, _, rfl, .tup (SqT.of upd_same) (.cons (.str _) (.cons (.lst (SqL.of (e10 _ _ hpu)) (dp_vals fun v hv => menuV_ok _ (mU v hv))) .nil)), (rprOk_vs mU (by omega)).2, ?_⟩
      show (fun H10 => _) (upd H9 pt (.tup [V.str "done", .ref pu]))
      have e10 := e9.trans e10
      generalize upd H9 pt (.tup [V.str "done", .ref pu]) = H10 at e10
      refine ⟨_, rfl, toPy d, .int 1, Rp.dp _ _ wd.nb (Rp.same e10 _ _ rd8.at_), .int _, wd.sh, by decide +kernel, _, rfl, ?_⟩
      rw [q0]
      refine iteT ?_
      refine ⟨_, rfl, _, rfl, .ref td, _, rfl, .tup (SqT.of (e10 _ _ ht8)) (.cons (.str _) (.cons (Rp.dp _ _ wd.nb (Rp.same e10 _ _ rd8.at_)) .nil)), wd.rp, szl (Nat.le_of_ble_eq_true rfl), fun pl hpl => ⟨pl, 4, _, rfl, rfl, upd_same, by decide, by decide, szl (Nat.le_of_ble_eq_true rfl), fun pr hpr => ⟨_, rfl, szl (Nat.le_of_ble_eq_true rfl), fun pk hpk =>
        ⟨pr, pk, _, _, rfl, rfl, (Same.new hpk) _ _ upd_same, upd_same, szl (Nat.le_of_ble_eq_true rfl), fun pc hpc => ?_⟩⟩⟩⟩
      have e17 := fun o => e10.trans (same4 (o4 := o) hpl hpr hpk hpc)
      obtain ⟨t0, t1, t2, t3, t4, rfl⟩ := ts_five hl
      have r0 := (ht 0 t0 rfl).1 (by decide)
      have r1 := (ht 1 t1 rfl).1 (by decide)
      have r2 := (ht 2 t2 rfl).1 (by decide)
      have r3 := (ht 3 t3 rfl).1 (by decide)
      obtain ⟨us4, a5, a6, r4⟩ := (ht 4 t4 rfl).2 rfl
      rw [us_one a5 a6 u1 u2] at r4
      refine eq_strs (ts := [t0, t1, t2, t3, t4]) (us := [tldT "InvalidKey" d, tldT "InvalidKey" d, tldT "InvalidKey" d, tldT "InvalidKey" d, donT (vsD us)]) (e17 _ _ _ hD) upd_same (by rw [r0, r1, r2, r3, r4]) (k _ (mA.trans (MR.of (e17 _) S8.rg)))
end
end Abv
set_option Elab.async false
set_option linter.all false
set_option maxRecDepth 100000
set_option maxHeartbeats 4000000
/-! ## What stands: frames, texts -/
namespace Abv
open PySem PySem.Spec PyProof.Rows L2 LamX
theorem ExtN.same {H H1 H2 : Hp} (e : ExtN H H1) (s : Same H1 H2) : ExtN H H2 := Abv_ext e s
where Abv_ext {H H1 H2 : Hp} (e : ExtN H H1) (s : Same H1 H2) : ExtN H H2 := fun b o h n => s _ _ (e b o h n)
theorem ExtN.updF {H H2 H3 : Hp} {D : Addr} {u : HO} (e2 : ExtN H H2) (hD : H2 D = none) (e3 : ExtN H H3) : ExtN H (upd H3 D u) := fun b o h n => by
  have h2 := e2 b o h n
  rw [upd_ne (fun z => by rw [z, hD] at h2; cases h2)]
  exact e3 b o h n
theorem tabs_upd {T : List (Addr × Str)} {H : Hp} {D : Addr} {xs ys : List V} (h : Tabs T H) (hD : H D = some (.lst xs)) : Tabs T (upd H D (.lst ys)) := (CF.upd (D := [D]) (List.mem_cons_self ..)).tabs (fun d hd => by
  rw [List.mem_singleton.mp hd]
  exact ⟨xs, hD⟩) h
section
variable {K : PySem.W.Frag} {H H' : Hp} {x dv dp kA lA r : Addr} {ms : List Str} {Vs : List (Str × V)} {Ps : PlL} {kl : List Ent} {n : Nat}
theorem TreeAt.extN (e : ExtN H H') (T : TreeAt K H x dv dp Vs Ps) : TreeAt K H' x dv dp Vs Ps := by
  obtain ⟨dx, hx⟩ := T.ins
  exact ⟨⟨dx, e _ _ hx fun _ z => (by cases z)⟩, e _ _ T.atV fun _ z => (by cases z), e _ _ T.atP fun _ z => (by cases z), fun p hp => e _ _ (T.atI p hp) fun _ z => (by cases z), fun p hp q hq => e _ _ (T.atS p hp q hq) fun _ z => (by cases z), T.nd⟩
theorem StA.extN (S : StA K H x dv dp kA lA r ms Vs Ps kl n) (e : ExtN H H') : StA K H' x dv dp kA lA r ms Vs Ps kl n := by
  have kt := ExtN.kt e
  obtain ⟨us, k1, k2⟩ := S.kn
  obtain ⟨ls, l1, l2⟩ := S.lb
  obtain ⟨a, b, hr, q⟩ := S.rg
  exact ⟨S.tr.extN e, S.ok, S.lk, ⟨us, e _ _ k1 fun _ z => (by cases z), RpA.kt kt _ _ (noLA_dE S.lk.ok) k2⟩, S.len, S.hms, S.m3, ⟨ls, e _ _ l1 fun _ z => (by cases z), RpA.kt kt _ _ (noLA_tS _) l2⟩, ⟨a, b, e _ _ hr fun _ z => (by cases z), q⟩, S.nkr, S.nlr, S.nlk⟩
end
/-- an entry of the tree's own list -/
theorem rp_kl {K : PySem.W.Frag} {H : Hp} {e : KL2} {v : V} (hk : e.1 ∈ menuK) (h : Rp K (CL K) H (dKL e) v) : ∃ t al dx fs, v = .ref t ∧ SqT K H t [e.1, .ref al] ∧ Rp K (CL K) H (.lab e.2) (.ref al) ∧ H al = some (.ins (CL K) dx fs) := by
  unfold dKL at h
  have ok := menuK_ok _ hk
  unfold Rp at h
  obtain ⟨t, xs, rfl, hs, h⟩ := h
  unfold RpA at h
  obtain ⟨a, r, rfl, h1, h⟩ := h
  unfold RpA at h
  obtain ⟨b, r, rfl, h2, h⟩ := h
  unfold RpA at h
  subst h
  have e1 := okV_inj ok h1
  subst e1
  have h3 := h2
  unfold Rp at h2
  obtain ⟨al, dx, tt, rfl, h4, _⟩ := h2
  exact ⟨t, al, dx, _, rfl, hs, h3, h4⟩
theorem ne_same {a b : Str} (h : a = b) : (!decide (V.str a = V.str b)) = false := by
  rw [decide_eq_true (by rw [h])]
  rfl
/-! ### texts -/
def outD (e : KL2) : Dt := .tup [dOf e.1, .str (lt e.2)]
theorem entOut_out (es : List Ent) : es.map entOut = (es.map fun e => (e.k, e.lb)).map outD := by
  rw [List.map_map]
  rfl
theorem noL_out {e : KL2} (h : e.1 ∈ menuK) : noL (outD e) = true := by
  unfold outD
  simp [noL, noLA, okV_noL (menuK_ok _ h)]
theorem noB_out : ∀ {es : List KL2}, (∀ e ∈ es, e.1 ∈ menuK ∧ LblOk e.2) → noBA (es.map outD) = true
  | [], _ => rfl
  | e :: es, h => by
    have h1 := noB_out fun x hx => h x (List.mem_cons_of_mem _ hx)
    have hk := menuK_ok _ (h e (List.mem_cons_self ..)).1
    rw [List.map_cons]
    unfold noBA
    rw [h1, Bool.and_true]
    unfold outD
    rcases okV_cases hk with ⟨b, hb⟩ | ⟨i, hb⟩ | ⟨s, hb⟩ <;> rw [hb] <;> rfl
theorem rT_any {x : Str} (h : ∀ c ∈ x.cps.toList, c < 16 ^ 8) : (reprText x).length ≤ 10 * x.length + 2 := PySem.StrLaws.reprText_len x h
theorem lt_chars {l : List Str} (h : ∀ m ∈ l, NameOk m) : ∀ c ∈ (lt l).cps.toList, c < 16 ^ 8 := fun c hc => by
  cases l with
  | nil =>
    have e : (lt []).cps.toList = [45] := by decide +kernel
    rw [e, List.mem_singleton] at hc
    rw [hc]
    decide
  | cons m r =>
    have e : TL.tl (lt (m :: r)) = TL.joinL (TL.tl (Str.ofString "+")) ((m :: r).map TL.tl) := by
      show TL.tl (Txt.join "+" (m :: r)) = _
      rw [TL.join_eq, TL.tl_join]
    have hc : c ∈ TL.tl (lt (m :: r)) := hc
    rw [e] at hc
    rcases mem_joinL hc with hc | ⟨p, hp, hc⟩
    · rw [TL.tl_ofString] at hc
      simp at hc
      omega
    · obtain ⟨t, ht, rfl⟩ := List.mem_map.mp hp
      have := (h t ht).2.2 c hc
      omega
theorem lt_rT {l : List Str} (h : LblOk l) : (reprText (lt l)).length ≤ 402 := by
  have h1 := rT_any (lt_chars h.nm)
  have h2 := lt_len h
  omega
theorem out_show : ∀ {es : List KL2}, (∀ e ∈ es, e.1 ∈ menuK ∧ LblOk e.2) → PyData.showableAll (toPyA (es.map outD)) = true ∧ PyData.hasDictAll (toPyA (es.map outD)) = false ∧ PyData.depthAll (toPyA (es.map outD)) ≤ 1 ∧ piled (PyData.shownAll (toPyA (es.map outD))) ≤ es.length * 600
  | [], _ => ⟨rfl, rfl, by decide, Nat.le_refl _⟩
  | e :: es, h => by
    obtain ⟨h1, h2, h3, h4⟩ := out_show fun u hu => h u (List.mem_cons_of_mem _ hu)
    obtain ⟨hk, hl⟩ := h e (List.mem_cons_self ..)
    obtain ⟨z1, z2, z3⟩ := menuK_z _ hk
    have ok := menuK_ok _ hk
    have et : toPy (outD e) = .tuple [toPy (dOf e.1), .str (lt e.2)] := by
      unfold outD
      simp only [toPy, toPyA]
    have s1 : (PyData.tuple [toPy (dOf e.1), .str (lt e.2)]).showable = true := by simp [PyData.showable, PyData.showableAll, z2]
    have s2 : (PyData.tuple [toPy (dOf e.1), .str (lt e.2)]).hasDict = false := by simp [PyData.hasDict, PyData.hasDictAll, z3]
    have s3 : (PyData.tuple [toPy (dOf e.1), .str (lt e.2)]).depth = 1 := by simp [PyData.depth, PyData.depthAll, okV_depth ok]
    have s4 : (PyData.tuple [toPy (dOf e.1), .str (lt e.2)]).shown.length ≤ 590 := by
      simp only [PyData.shown, PyData.shownAll, shown_v ok]
      have t1 := tup_len [rprV e.1, reprText (lt e.2)]
      rw [piled_cons, piled_cons] at t1
      have t2 := lt_rT hl
      have t3 : piled [] = 0 := rfl
      omega
    rw [List.map_cons]
    unfold toPyA
    rw [et]
    refine ⟨by rw [PyData.showableAll, s1, h1]; rfl, by rw [PyData.hasDictAll, s2, h2]; rfl, ?_, ?_⟩
    · rw [PyData.depthAll, s3]
      omega
    · rw [PyData.shownAll, piled_cons, List.length_cons]
      omega
theorem rprOk_out {es : List KL2} (h : ∀ e ∈ es, e.1 ∈ menuK ∧ LblOk e.2) (hl : es.length ≤ 1000) : rprOk (.list (toPyA (es.map outD))) := by
  obtain ⟨h1, h2, h3, h4⟩ := out_show h
  refine ⟨by simp [PyData.showable, h1], by simp [PyData.hasDict, h2], ?_, ?_⟩
  · simp only [PyData.shown]
    have := listText_le (PyData.shownAll (toPyA (es.map outD)))
    omega
  · simp only [PyData.depth]
    omega
theorem rprOk_i {i : Int} (h0 : 0 ≤ i) (h : i ≤ 100000) : rprOk (.int i) := by
  obtain ⟨h1, h2, h3, h4⟩ := rprOk_int h0 h
  have s : (PyData.int i).showable = true := by
    simp only [PyData.showable, PyData.showableAll, Bool.and_true, Bool.true_and] at h1
    exact h1
  refine ⟨s, rfl, ?_, by simp [PyData.depth]⟩
  have : (PyData.tuple [.str "done", .int i]).shown.length ≥ (PyData.int i).shown.length := by
    simp only [PyData.shown, PyData.shownAll]
    unfold tupleText
    rw [strLen_append, strLen_append]
    have h3 := join_length_add [reprText "done", toString i] (by simp)
    rw [piled_cons, piled_cons] at h3
    have h3' : piled [] = 0 := rfl
    omega
  omega
end Abv
set_option Elab.async false
set_option linter.all false
set_option maxRecDepth 100000
set_option maxHeartbeats 8000000
/-! ## _law_stands -/
namespace Abv
open PySem PySem.Spec PyProof.Rows L2 LamX
section
variable {P : Program} {w : World} {K : PySem.W.Frag} {mg : Str → Option Value} {base : Heap}
def spStands (K : PySem.W.Frag) (Tb : List (Addr × Str)) : Sp := fun vs H Q _ => ∃ (r x kA lA dv dp : Addr) (ms : List Str) (Vs : List (Str × V)) (Ps : PlL) (kl : List Ent) (n : Nat), vs = [.ref x, .ref kA, .ref lA] ∧ StA K H x dv dp kA lA r ms Vs Ps kl n ∧ n < 60 ∧ Tabs Tb H ∧
  ∀ H', ExtN H H' → Tabs Tb H' → Q (.bl true) H'
abbrev s__law_stands : Stmt := top 60
abbrev n__law_stands : List Str := ["_law_tree", "_law_known", "_law_labels_here", "_law_high", "_law_label", "_law_values", "_law_told", "_law_value", "_law_due", "_law_one"]
theorem sc__law_stands : FnScope n__law_stands ["_law_tree", "_law_known", "_law_labels_here"] (defScope s__law_stands) := ⟨rfl, rfl, rfl, by decide +kernel, rfl, by decide +kernel, by decide +kernel⟩
theorem ok_stands (T : Tx K mg) (Y : Ty K) (Z : Xs P K) {Tb : List (Addr × Str)} (L : Tbs K mg base Tb) : ClG CX0 P w K mg base 12 "_law_stands" (spStands K Tb) := by
  have C__law_made_label : Cl CX0 P w K mg base 6 "_law_made_label" (sp_law_made_label K) := ok_law_made_label T Y
  have C__law_different : Cl CX0 P w K mg base 6 "_law_different" (spLDif K) := ok_ldif T
  have C__law_entries : Cl CX0 P w K mg base 6 "_law_entries" (spEnts K Tb) := ok_ents T L
  have M_entries_at : FnR P w K mg base (L2.CX P w) 9 (He.ma K (CT K) "entries_at") (spEnt K) := ok_ent T Y Z
  have M_steps : FnR P w K mg base (L2.CX P w) 10 (He.ma K (CT K) "steps") (spSteps K) := ok_steps T Y Z
  have M_different : FnR P w K mg base (L2.CX P w) 10 (He.ma K (CT K) "different") (spDif K) := ok_dif T Y Z
  have FL : FnR P w K mg base CX0 1 (He.ma K (CT K) "__len__") (spTLen K) := ok_tlen T Y
  have FS : FnR P w K mg base CX0 1 (He.ma K (CL K) "__str__") (spStr K) := ok_str T Y
  refine clG0 T.f__law_stands sc__law_stands (fun _ _ _ _ _ _ us hl => match us, hl with | [_, _, _], _ => rfl) (fun vs H Q E h => ?_) (fun f cdv A outer s H vs Q E hgu hr h => ?_)
  · obtain ⟨r, x, kA, lA, dv, dp, ms, Vs, Ps, kl, n, rfl, _⟩ := h
    rfl
  obtain ⟨r, x, kA, lA, dv, dp, ms, Vs, Ps, kl, n, rfl, ST, hn, TB, k⟩ := h
  have hg2 : (A.deeper (envOfC "_law_stands" (defScope s__law_stands) s.heap.objs.size f cdv)).guards = some [] := hgu
  refine ⟨_, PSs.nox (pss_cons (ps_if (pt_cmpR op_ne (pe_callB (id := "len") (lenO ⟨Y.tlen.1.at_, Y.tlen.1.fn⟩ FL (hr.mono (by decide))) (by rfl) T.b_len (by decide +kernel) (pa_cons (pv 0) pa_nil)) (pe_callB (id := "len") (lenK (K := K)) (by rfl) T.b_len (by decide +kernel) (pa_cons (pv 1) pa_nil)) (nomark _)) (pss_one (ps_ret pe_bl)) pss_nil)
      (pss_cons (ps_for PassesOwn.never rfl (pi_listK (K := K) (pv 2)) (pg_name (i := 3) sc__law_stands.nd rfl (Or.inl rfl))
        (pss_cons (ps_par (i := 4) (j := 5) rfl sc__law_stands.nd rfl rfl (by decide) rfl rfl (pa_cons (pe_cl C__law_made_label hr (by decide) pass0 rfl (pa_cons (pv 3) pa_nil)) (pa_cons (pe_cl C__law_different hr (by decide) pass0 rfl (pa_cons (pv 1) (pa_cons (pv 3) pa_nil))) pa_nil)) (by rfl))
      (pss_cons (ps_set (i := 6) sc__law_stands.nd rfl (Or.inl rfl) (pe_methR (pv 0) Y.cT Y.different.1 M_different (hr.mono (by decide)) passF (pa_cons (pv 4) pa_nil)))
      (pss_cons (ps_if (pt_cmpR op_ne (pe_callB (id := "repr") (rprD (K := K) (k := 11) (by exact hg2) (by exact hr)) (by rfl) T.b_repr (by decide +kernel) (pa_cons (pv 6) pa_nil)) (pe_callB (id := "repr") (rprD (K := K) (k := 11) (by exact hg2) (by exact hr)) (by rfl) T.b_repr (by decide +kernel) (pa_cons (pv 5) pa_nil)) (nomark _)) (pss_one (ps_ret pe_bl)) pss_nil)
      (pss_cons (ps_expr (pe_bmK (K := K) PySem.F.plainAttrs_list PySem.F.slot_list_append PySem.F.type_list_append mt_append (pv 6) (pa_cons pe_str pa_nil)))
      (pss_cons (ps_for PassesOwn.never rfl (pi_listK (K := K) (pe_op op_cat (pv 5) (pe_lst (pa_cons pe_int (pa_cons pe_bl (pa_cons pe_int (pa_cons pe_str pa_nil))))))) (pg_name (i := 7) sc__law_stands.nd rfl (Or.inl rfl))
        (pss_cons (ps_set (i := 8) sc__law_stands.nd rfl (Or.inl rfl) (pe_cl C__law_entries hr (by decide) pass0 rfl (pa_cons (pv 1) (pa_cons (pv 3) (pa_cons (pv 7) pa_nil)))))
      (pss_cons (ps_if (pt_cmpR op_ne (pe_callB (id := "repr") (rprD (K := K) (k := 11) (by exact hg2) (by exact hr)) (by rfl) T.b_repr (by decide +kernel) (pa_cons (pe_lc (own := [("_law_one", 9)]) rfl sc__law_stands.nd (pi_listK (K := K) (pe_methR (pv 0) Y.cT Y.entries.1 M_entries_at (hr.mono (by decide)) passF (pa_cons (pv 4) (pa_cons (pv 7) pa_nil)))) (blkOk_by (own := [("_law_one", 9)]) (N := n__law_stands) (sc := defScope s__law_stands) (by decide +kernel)) (fun _ _ _ _ _ => (pg_name (i := 9) sc__law_stands.nd rfl (Or.inl rfl))) (fun _ _ _ _ _ => pts_nil) (fun _ _ _ _ _ => (pe_tup (pa_cons (pe_ix (ixT (K := K)) (pv 9) pe_int (fun _ _ => rfl)) (pa_cons (pe_callTy (T := "str") (strO ⟨Y.lstr.1.at_, Y.lstr.1.fn⟩ FS (hr.mono (by decide))) (by rfl) T.b_str (by decide +kernel) (pa_cons (pe_ix (ixT (K := K)) (pv 9) pe_int (fun _ _ => rfl)) pa_nil)) pa_nil))))) pa_nil)) (pe_callB (id := "repr") (rprD (K := K) (k := 11) (by exact hg2) (by exact hr)) (by rfl) T.b_repr (by decide +kernel) (pa_cons (pv 8) pa_nil)) (nomark _)) (pss_one (ps_ret pe_bl)) pss_nil)
      (pss_one (ps_if (pt_cmpR op_ne (pe_callB (id := "repr") (rprD (K := K) (k := 11) (by exact hg2) (by exact hr)) (by rfl) T.b_repr (by decide +kernel) (pa_cons (pe_methR (pv 0) Y.cT Y.steps.1 M_steps (hr.mono (by decide)) passF (pa_cons (pv 4) (pa_cons (pv 7) pa_nil))) pa_nil)) (pe_callB (id := "repr") (rprD (K := K) (k := 11) (by exact hg2) (by exact hr)) (by rfl) T.b_repr (by decide +kernel) (pa_cons (pe_op op_add pe_int (pe_callB (id := "len") (lenK (K := K)) (by rfl) T.b_len (by decide +kernel) (pa_cons (pv 8) pa_nil))) pa_nil)) (nomark _)) (pss_one (ps_ret pe_bl)) pss_nil)))))
      (pss_one (ps_if (pt_cmpR op_ne (pe_callB (id := "repr") (rprD (K := K) (k := 11) (by exact hg2) (by exact hr)) (by rfl) T.b_repr (by decide +kernel) (pa_cons (pe_methR (pv 0) Y.cT Y.different.1 M_different (hr.mono (by decide)) passF (pa_cons (pv 4) pa_nil)) pa_nil)) (pe_callB (id := "repr") (rprD (K := K) (k := 11) (by exact hg2) (by exact hr)) (by rfl) T.b_repr (by decide +kernel) (pa_cons (pv 5) pa_nil)) (nomark _)) (pss_one (ps_ret pe_bl)) pss_nil))))))))
      (pss_one (ps_ret pe_bl)))), ?_⟩
  obtain ⟨us, hkA, rus⟩ := ST.kn
  have lus := rus.len
  rw [List.length_map] at lus
  have hlen := ST.len
  have hTl := ST.lk.len ST.ok ST.hms
  obtain ⟨dx, hx⟩ := ST.tr.ins
  refine ⟨_, rfl, x, dx, _, rfl, hx, x, dv, dp, Vs, Ps, rfl, ST.tr, by omega, fun H1 e1 => ⟨_, rfl, ⟨by omega, by omega⟩, ?_⟩⟩
  have S1 := ST.same e1
  have TB1 := TB.ext e1
  have hk1 := e1 _ _ hkA
  obtain ⟨ls, hls, rls⟩ := S1.lb
  refine ⟨_, rfl, _, us.length, rfl, .inl ⟨us, SqL.of hk1, rfl⟩, rfl, _, rfl, ?_⟩
  have hd : (!decide (V.int ((trip Ps).length : Int) = V.int (us.length : Int))) = false := by
    rw [decide_eq_true (by rw [hTl, lus])]
    rfl
  rw [hd]
  refine iteF ?_
  refine ⟨_, rfl, lA, rfl, ⟨ls, SqL.of hls⟩, forJ ls.length (fun i σ H' => (∃ a b c d e f g, σ = [some (.ref x), some (.ref kA), some (.ref lA), a, b, c, d, e, f, g]) ∧ ExtN H1 H' ∧ Tabs Tb H') ?_ ?_ ?_ ?_ ?_⟩
  · exact ⟨⟨none, none, none, none, none, none, none, rfl⟩, ExtN.refl _, TB1⟩
  · exact fun i σ H' hi h => ⟨_, _, Abv.ExtN.seqL h.2.1 (SqL.of hls), List.getElem?_eq_getElem hi⟩
  · exact fun σ H' h => ⟨_, Abv.ExtN.seqL h.2.1 (SqL.of hls), Nat.le_refl _⟩
  · rintro i y σ H2 H2' hi ⟨⟨a, b, c, d, e, f, g, rfl⟩, en, tb⟩ ⟨rfl, hy⟩
    have hy := hy _ (Abv.ExtN.seqL en (SqL.of hls))
    have S2 := S1.extN en
    obtain ⟨dl, g1, ry⟩ := rls.get hy
    rw [List.getElem?_map, Option.map_eq_some_iff] at g1
    obtain ⟨l, g2, rfl⟩ := g1
    have hlb := List.mem_of_getElem? g2
    have lo := belows_ok S1.hms hlb
    have ry := Rp.kt (Abv.ExtN.kt en) _ _ (noL_tS l) ry
    refine ⟨_, rfl, y, l, rfl, ry, lo, fun lx H3 e3 hlx => ?_⟩
    have S3 := S2.same e3
    obtain ⟨us3, hk3, rus3⟩ := S3.kn
    refine ⟨_, rfl, _, rfl, kA, y, us3, kl, ms, l, rfl, SqL.of hk3, rus3, Rp.same e3 _ _ ry, S3.hms, S3.lk.ok, by omega, fun q zs H4 e4 nq hq zp zw => ⟨_, _, rfl, ?_⟩⟩
    have S4 := S3.same e4
    have en4 : ExtN H1 H4 := Abv.ExtN.same (Abv.ExtN.same en e3) e4
    have tb4 := (tb.ext e3).ext e4
    have hlx4 := Rp.same e4 _ _ hlx
    have ry4 := Rp.same e4 _ _ (Rp.same e3 _ _ ry)
    obtain ⟨dx4, fs4, hx4, f1, f2, f3, f4, f5⟩ := tree_fld S4.tr
    refine ⟨_, rfl, x, dx4, fs4, rfl, hx4, f5, _, rfl, ?_⟩
    dsimp only [tNil]
    refine go_dif S4.tr S4.ok hn hlx4 lo fun H5 pu us5 e5 npu hpu u1 u2 => ?_
    have ez : us5 = zs := dif_eq S4.ok S4.lk S4.hms hlb u1 u2 zp zw
    subst ez
    obtain ⟨mU, lU⟩ := dif_menu S4.ok u1
    have okU : ∀ v ∈ us5, okV v = true := fun v hv => menuV_ok _ (mU v hv)
    have rU := (rprOk_vs mU (by omega)).1
    refine ⟨_, rfl, .ref pu, vsD us5, rfl, .lst (SqL.of hpu) (dp_vals okU), rU, _, rfl, .ref q, vsD us5, rfl, .lst (SqL.of (e5 _ _ hq)) (dp_vals okU), rU, rfl, _, rfl, ?_⟩
    rw [ne_same rfl]
    refine iteF ?_
    refine ⟨_, rfl, Or.inl ⟨rfl, _, SqL.of hpu⟩, pu, us5, _, rfl, rfl, hpu, by rw [sizeLine_eq]; omega, ?_⟩
    have e46 := Same.upd (u := .lst (us5 ++ [V.str "x"])) e5 npu
    generalize upd H5 pu (.lst (us5 ++ [V.str "x"])) = H6 at e46
    have S6 := S4.same e46
    have en6 : ExtN H1 H6 := Abv.ExtN.same en4 e46
    have tb6 := tb4.ext e46
    have hlx6 := Rp.same e46 _ _ hlx4
    have ry6 := Rp.same e46 _ _ ry4
    have hq6 := e46 _ _ hq
    clear en tb S2 ry hlx S3 hk3 rus3 S4 en4 tb4 hlx4 ry4 hx4 hpu e5 e46 npu e3 e4
    refine ⟨_, rfl, szl (Nat.le_of_ble_eq_true rfl), fun pk hpk => ⟨q, pk, us5, _, rfl, rfl, (Same.new hpk) _ _ hq6, upd_same, ?_, fun pc hpc => ?_⟩⟩
    · rw [sizeLine_eq]
      simp only [List.length_cons, List.length_nil]
      omega
    have e67 := (Same.new (u := .lst [V.int 7, .bl true, .int 1, .str "zz"]) hpk).trans (Same.new (u := .lst (us5 ++ [V.int 7, .bl true, .int 1, .str "zz"])) hpc)
    have hw := upd_same (H := upd H6 pk (.lst [V.int 7, .bl true, .int 1, .str "zz"])) (a := pc) (o := .lst (us5 ++ [V.int 7, .bl true, .int 1, .str "zz"]))
    generalize upd (upd H6 pk (.lst [V.int 7, .bl true, .int 1, .str "zz"])) pc (.lst (us5 ++ [V.int 7, .bl true, .int 1, .str "zz"])) = H7 at e67 hw
    have mW : ∀ v ∈ us5 ++ [V.int 7, .bl true, .int 1, .str "zz"], v ∈ menuU := fun v hv => by
      rcases List.mem_append.mp hv with hv | hv
      · exact menuV_U (mU v hv)
      · have : ∀ v ∈ [V.int 7, .bl true, .int 1, .str "zz"], v ∈ menuU := by decide +kernel
        exact this v hv
    generalize us5 ++ [V.int 7, .bl true, .int 1, .str "zz"] = ws at hw mW
    have S7 := S6.same e67
    have en7 : ExtN H1 H7 := Abv.ExtN.same en6 e67
    have tb7 := tb6.ext e67
    have hlx7 := Rp.same e67 _ _ hlx6
    have ry7 := Rp.same e67 _ _ ry6
    have hq7 := e67 _ _ hq6
    clear S6 en6 tb6 hlx6 ry6 hq6 e67 hpc hpk
    refine ⟨pc, rfl, ⟨_, SqL.of hw⟩, forJ ws.length (fun i σ H' => (∃ e f g, σ = [some (.ref x), some (.ref kA), some (.ref lA), some y, some (.ref lx), some (.ref q), some (.ref pu), e, f, g]) ∧ ExtN H7 H' ∧ Tabs Tb H') ?_ ?_ ?_ ?_ ?_⟩
    · exact ⟨⟨_, _, _, rfl⟩, ExtN.refl _, tb7⟩
    · exact fun i σ H' hi h => ⟨_, _, Abv.ExtN.seqL h.2.1 (SqL.of hw), List.getElem?_eq_getElem hi⟩
    · exact fun σ H' h => ⟨_, Abv.ExtN.seqL h.2.1 (SqL.of hw), Nat.le_refl _⟩
    · rintro j v σ H8 H8' hj ⟨⟨e, f, g, rfl⟩, en8, tb8⟩ ⟨rfl, hv⟩
      have hv := hv _ (Abv.ExtN.seqL en8 (SqL.of hw))
      have vU := mW v (List.mem_of_getElem? hv)
      have ov := menuU_ok v vU
      have S8 := S7.extN en8
      obtain ⟨us8, hk8, rus8⟩ := S8.kn
      have ry8 := Rp.kt (Abv.ExtN.kt en8) _ _ (noL_tS l) ry7
      refine ⟨_, rfl, _, rfl, _, rfl, kA, y, v, us8, kl, ms, l, rfl, SqL.of hk8, rus8, ry8, vU, S8.hms, S8.lk.ok, by omega, tb8, fun qd es zs9 H9 en9 tb9 nq9 hq9 ep ew er => ?_⟩
      have S9 := S8.extN en9
      have hlx9 := Rp.kt (Abv.ExtN.kt (en8.trans en9)) _ _ rfl hlx7
      have en79 := en8.trans en9
      have lzs := er.len
      rw [List.length_map] at lzs
      have les : es.length ≤ kl.length := by
        rw [ep.length_eq]
        exact List.length_filter_le _ _
      obtain ⟨dx9, fs9, hx9, f1, f2, f3, f4, f5⟩ := tree_fld S9.tr
      refine ⟨_, rfl, x, dx9, fs9, rfl, hx9, f3, _, rfl, _, rfl, ?_⟩
      dsimp only [tNil]
      refine go_ent S9.tr S9.ok hn hlx9 lo ov fun H10 pe ks ys e10 npe hpe k1 k2 hys => ?_
      have hpr : prs (inner Ps (vtV v)) l ks = es.map fun e => (e.k, e.lb) := prs_eq S9.ok S9.lk S9.hms hlb vU k1 k2 ep ew
      have hpo := prs_ok S9.ok lo k1
      rw [entOut_out, ← hpr] at er
      have lpr : (prs (inner Ps (vtV v)) l ks).length = es.length := by rw [hpr, List.length_map]
      have lpr0 := lpr
      generalize prs (inner Ps (vtV v)) l ks = pp at hys hpo er lpr hpr
      have lys := hys.len
      rw [List.length_map] at lys
      refine ⟨pe, rfl, ⟨_, SqL.of hpe⟩, fun D nD => ?_⟩
      refine lcL (K := K) (C := CL K) (fun j => (pp[j]?).bind fun e => some (outD e)) (fmSame _) nD (by omega) (fun Hc h => SqL.of (h _ _ hpe)) (fun j d hj e => ?_) (fun j u Hc R SS hu hM _ hS => ⟨rfl, yes_go ?_⟩) (fun Hc zs hM hD2 hz => ?_) (fun Hc _ => Same.refl Hc)
      · cases h : pp[j]? with
        | none =>
          rw [h] at e
          cases e
        | some v =>
          rw [h] at e
          cases e
          exact noL_out (hpo v (List.mem_of_getElem? h)).1
      · obtain ⟨d, h1, h2⟩ := hys.get hu
        rw [List.getElem?_map, Option.map_eq_some_iff] at h1
        obtain ⟨e, he, rfl⟩ := h1
        obtain ⟨m1, m2⟩ := hpo e (List.mem_of_getElem? he)
        obtain ⟨t, al, dxl, fsl, rfl, ht, hlab, hal⟩ := rp_kl m1 (Rp.same hM _ _ h2)
        refine ⟨_, rfl, t, _, 0, e.1, rfl, rfl, ht, rfl, _, rfl, t, _, 1, .ref al, rfl, rfl, ht, rfl, al, dxl, fsl, rfl, hal, al, e.2, rfl, hlab, m2, fun H11 e11 => ⟨_, rfl, szl (Nat.le_of_ble_eq_true rfl), fun pt hpt => ?_⟩⟩
        exact hS _ _ (outD e) (e11.trans (Same.new hpt)) (by rw [he]; rfl) (Rp.tupI (SqT.of upd_same) (RpA.cons (okV_rp (menuK_ok _ m1)) (RpA.one rfl)))
      have ef : (List.range ys.length).filterMap (fun j => (pp[j]?).bind fun e => some (outD e)) = pp.map outD := by
        rw [lys, fm_list, fm_map]
      rw [ef] at hz
      have nb := noB_out hpo
      have rO := rprOk_out hpo (by omega)
      have e9c := e10.trans hM
      refine ⟨.ref D, .list (toPyA (pp.map outD)), rfl, .lst (SqL.of hD2) (RpA.dp _ _ nb hz), rO, _, rfl, .ref qd, .list (toPyA (pp.map outD)), rfl, .lst (SqL.of (e9c _ _ hq9)) (RpA.dp _ _ nb (RpA.same e9c _ _ er)), rO, rfl, _, rfl, ?_⟩
      rw [ne_same rfl]
      refine iteF ?_
      have Sc := S9.same e9c
      have hlxc := Rp.same e9c _ _ hlx9
      refine ⟨_, rfl, x, dx9, fs9, rfl, e9c _ _ hx9, f4, _, rfl, _, rfl, ?_⟩
      dsimp only [tNil]
      refine go_steps Sc.tr Sc.ok hn hlxc lo ov fun H12 ks' e12 k1' k2' => ?_
      rw [ks_one k1' k2' k1 k2, lpr0]
      have eD := e9c.trans e12
      refine ⟨.int (1 + (es.length : Int)), .int (1 + (es.length : Int)), rfl, .int _, rprOk_i (by omega) (by omega), _, rfl, _, zs9.length, rfl, .inl ⟨zs9, SqL.of (eD _ _ hq9), rfl⟩, _, _, rfl, rfl, _, .int (1 + (zs9.length : Int)), rfl, .int _, rprOk_i (by omega) (by omega), rfl, _, rfl, ?_⟩
      rw [ne_same (by rw [lzs])]
      exact iteF ⟨⟨_, _, _, rfl⟩, Abv.ExtN.same en79 eD, tb9.ext eD⟩
    · rintro σ H8 ⟨⟨e, f, g, rfl⟩, en8, tb8⟩
      have S8 := S7.extN en8
      have hlx8 := Rp.kt (Abv.ExtN.kt en8) _ _ rfl hlx7
      have hq8 := en8 _ _ hq7 fun _ z => (by cases z)
      obtain ⟨dx8, fs8, hx8, f1, f2, f3, f4, f5⟩ := tree_fld S8.tr
      refine ⟨_, rfl, x, dx8, fs8, rfl, hx8, f5, _, rfl, ?_⟩
      dsimp only [tNil]
      refine go_dif S8.tr S8.ok hn hlx8 lo fun H9 pu2 us9 e9 npu2 hpu2 v1 v2 => ?_
      have ez : us9 = us5 := us_one v1 v2 u1 u2
      subst ez
      refine ⟨.ref pu2, vsD us9, rfl, .lst (SqL.of hpu2) (dp_vals okU), rU, _, rfl, .ref q, vsD us9, rfl, .lst (SqL.of (e9 _ _ hq8)) (dp_vals okU), rU, rfl, _, rfl, ?_⟩
      rw [ne_same rfl]
      exact iteF ⟨⟨_, _, _, _, _, _, _, rfl⟩, Abv.ExtN.same (en7.trans en8) e9, tb8.ext e9⟩
  · rintro σ H' ⟨⟨a, b, c, d, e, f, g, rfl⟩, en, tb⟩
    exact k _ (fun b o h nt => en b o (e1 b o h) nt) tb
end
end Abv
set_option Elab.async false
set_option linter.all false
set_option maxRecDepth 100000
set_option maxHeartbeats 8000000
/-! ## _law_right, law -/
namespace Abv
open PySem PySem.Spec PyProof.Rows L2 LamX
/-- all stays but r, the tables, the dicts -/
def FR (r : Addr) (H H' : Hp) : Prop := ∀ b o, H b = some o → b ≠ r → (∀ ps, o ≠ .tbl ps) → (∀ kvs, o ≠ .dK kvs) → H' b = some o
theorem FR.refl (r : Addr) (H : Hp) : FR r H H := fun _ _ h _ _ _ => h
theorem FR.same {r : Addr} {H H1 H2 : Hp} (a : FR r H H1) (e : Same H1 H2) : FR r H H2 := fun b o h n t d => e _ _ (a b o h n t d)
theorem FR.sb {r : Addr} {H H1 H2 : Hp} (a : FR r H H1) (e : SB r H1 H2) : FR r H H2 := fun b o h n t d => e _ _ (a b o h n t d) n
theorem FR.ext {r : Addr} {H H1 H2 : Hp} (a : FR r H H1) (e : ExtN H1 H2) : FR r H H2 := fun b o h n t d => e _ _ (a b o h n t d) t
theorem FR.cf {r kA : Addr} {H H0 H1 H2 : Hp} (a0 : FR r H H0) (hk : H0 kA = none) (a : FR r H H1) (e : CF [r, kA] H1 H2) : FR r H H2 := fun b o h n t d => by
  refine e _ _ (a b o h n t d) (fun z => ?_) d
  rcases List.mem_cons.mp z with z | z
  · exact n z
  · have h0 := a0 b o h n t d
    rw [List.mem_singleton.mp z, hk] at h0
    cases h0
theorem tabs_mr {r : Addr} {H H' : Hp} {T : List (Addr × Str)} (hR : RngAt r H) (m : MR r H H') (h : Tabs T H) : Tabs T H' := (CF.sb m.2 (List.mem_cons_self ..) : CF [r] H H').tabs (fun d hd => by
  rw [List.mem_singleton.mp hd]
  obtain ⟨a, b, h, _⟩ := hR
  exact ⟨_, h⟩) h
section
variable {P : Program} {w : World} {K : PySem.W.Frag} {mg : Str → Option Value} {base : Heap}
def spRight (K : PySem.W.Frag) (Tb : List (Addr × Str)) : Sp := fun vs H Q _ => ∃ (r : Addr), vs = [.ref r] ∧ RngAt r H ∧ Tabs Tb H ∧ ∀ H', FR r H H' → Tabs Tb H' → Q (.bl true) H'
abbrev s__law_right : Stmt := top 62
abbrev n__law_right : List Str := ["_law_rng_here", "_law_labels_here", "_law_tree", "_law_known", "_law_turn"]
theorem sc__law_right : FnScope n__law_right ["_law_rng_here"] (defScope s__law_right) := ⟨rfl, rfl, rfl, by decide +kernel, rfl, by decide +kernel, by decide +kernel⟩
theorem ok_right (T : Tx K mg) (Y : Ty K) (Z : Xs P K) (X : Xo K) {Tb : List (Addr × Str)} (L : Tbs K mg base Tb) : ClG CX0 P w K mg base 13 "_law_right" (spRight K Tb) := by
  have S : Spc K (CL K) "__repr__" (He.ma K (CL K) "__repr__") := ⟨Y.lrepr.1.at_, Y.lrepr.1.fn⟩
  have C_out : ClG CX0 P w K mg base 11 "_law_outcome" (spOut K) := ok_out T Y Z S T.g_InvalidError T.g_MissingError
  have C_chg : ClG CX0 P w K mg base 12 "_law_change_right" (spChg K) := ok_chg T Y X C_out
  have C_wrong : ClG CX0 P w K mg base 12 "_law_wrong" (spWrong K) := ok_wrong T Y Z X S C_out
  have C_stands : ClG CX0 P w K mg base 12 "_law_stands" (spStands K Tb) := ok_stands T Y Z L
  have C__law_draw : Cl CX0 P w K mg base 1 "_law_draw" (spDraw K) := ok_draw T
  have C__law_marks : Cl CX0 P w K mg base 4 "_law_marks" (spMarks K) := ok_marks T
  have C__law_labels : Cl CX0 P w K mg base 5 "_law_labels" (spLabels K Tb) := ok_labels T L
  obtain ⟨fdT, FT, BT⟩ := ok_treeI (P := P) (w := w) (mg := mg) (base := base) T Y
  refine clG0 T.f__law_right sc__law_right (fun _ _ _ _ _ _ us hl => match us, hl with | [_], _ => rfl) (fun vs H Q E h => ?_) (fun f cdv A outer s H vs Q E hgu hr h => ?_)
  · obtain ⟨r, rfl, _⟩ := h
    rfl
  obtain ⟨r, rfl, hR, TB, k⟩ := h
  have hg2 : (A.deeper (envOfC "_law_right" (defScope s__law_right) s.heap.objs.size f cdv)).guards = some [] := hgu
  refine ⟨_, PSs.nox (pss_cons (ps_set (i := 1) sc__law_right.nd rfl (Or.inl rfl) (pe_cl C__law_labels hr (by decide) pass0 rfl (pa_cons (pe_cl C__law_marks hr (by decide) pass0 rfl (pa_cons (pv 0) (pa_cons pe_int pa_nil))) pa_nil)))
      (pss_cons (ps_par (i := 2) (j := 3) rfl sc__law_right.nd rfl rfl (by decide) rfl rfl (pa_cons (pe_make0 Y.mkT FT (hr.mono (by decide)) rfl T.g_IndexTree BT .nil pass0) (pa_cons (pe_lst pa_nil) pa_nil)) (by rfl))
      (pss_cons (ps_for PassesOwn.never rfl (pi_range1 rfl T.b_range (pa_cons (pe_cl C__law_draw hr (by decide) pass0 rfl (pa_cons (pv 0) (pa_cons pe_int pa_nil))) pa_nil)) (pg_name (i := 4) sc__law_right.nd rfl (Or.inl rfl))
        (pss_cons (ps_if (pt_not (pt_val (pe_clg C_chg hg2 hr (by decide) pass0 rfl (pa_cons (pv 0) (pa_cons (pv 2) (pa_cons (pv 3) (pa_cons (pv 1) pa_nil))))))) (pss_one (ps_ret pe_bl)) pss_nil)
      (pss_one (ps_if (PW.pt (pw_and (pt_cmpR op_eq (pe_cl C__law_draw hr (by decide) pass0 rfl (pa_cons (pv 0) (pa_cons pe_int pa_nil))) pe_int (nomark _)) (pw_and1 (pt_not (pt_val (pe_clg C_wrong hg2 hr (by decide) pass0 rfl (pa_cons (pv 0) (pa_cons (pv 2) (pa_cons (pv 1) pa_nil))))))))) (pss_one (ps_ret pe_bl)) pss_nil))))
      (pss_one (ps_ret (pe_and (pe_clg C_wrong hg2 hr (by decide) pass0 rfl (pa_cons (pv 0) (pa_cons (pv 2) (pa_cons (pv 1) pa_nil)))) (pe_one (pe_clg C_stands hg2 hr (by decide) pass0 rfl (pa_cons (pv 2) (pa_cons (pv 3) (pa_cons (pv 1) pa_nil))))))))))), ?_⟩
  refine ⟨_, rfl, r, rfl, hR, fun p ms H1 m3 hms m1 np hp => ?_⟩
  refine ⟨p, ms, rfl, SqL.of hp, hms, m3, tabs_mr hR m1 TB, fun q us H2 en2 tb2 nq hq rls => ?_⟩
  obtain ⟨ra, rb, hr1, hr0⟩ := m1.1
  have hqr : q ≠ r := fun z => by
    rw [← z] at hr1
    obtain ⟨ps, e⟩ := nq _ hr1
    cases e
  have hR2 : RngAt r H2 := ⟨ra, rb, en2 _ _ hr1 fun _ z => (by cases z), hr0⟩
  have fr2 : FR r H H2 := ((FR.refl r H).sb m1.2).ext en2
  refine fun x dx nx ndx hne => ⟨x, dx, rfl, upd_same, fun H3 dv dp kp T3 => ⟨rfl, szl (Nat.le_of_ble_eq_true rfl), fun kA nkA => ⟨_, _, rfl, ?_⟩⟩⟩
  have e3 : Same H2 H3 := fun b o h => by
    have h1 : b ≠ x := ne_of_none h nx
    have h2 : b ≠ dx := ne_of_none h ndx
    exact kp b o (by rw [upd_ne h1, upd_ne h2]; exact h) h1
  have fr3 := fr2.same e3
  have e4 := Same.new (u := .lst []) nkA
  have hk4 := upd_same (H := H3) (a := kA) (o := .lst [])
  have hkr : kA ≠ r := (hR2.same e3).ne nkA
  have hqk : q ≠ kA := ne_of_none (e3 _ _ hq) nkA
  show (fun H4 => _) (upd H3 kA (.lst []))
  generalize upd H3 kA (.lst []) = H4 at e4 hk4
  have e34 := e3.trans e4
  have S4 : StA K H4 x dv dp kA q r ms [] [] [] 0 := ⟨T3.same e4, ⟨List.Pairwise.nil, List.Pairwise.nil, fun p hp => (by cases hp), fun p hp => (by cases hp), Nat.le_refl _, Nat.le_refl _, fun p hp => (by cases hp), fun p hp => (by cases hp), fun p hp => (by cases hp), fun p hp => (by cases hp), fun p hp => (by cases hp)⟩, Lk.nil, ⟨[], hk4, RpA.nil⟩, Nat.le_refl _, hms, m3,
    ⟨us, e34 _ _ hq, RpA.same e34 _ _ rls⟩, hR2.same e34, hkr, hqr, hqk⟩
  have fr4 := fr3.same e4
  have tb4 := tb2.ext e34
  clear hk4 e4 e34 e3 kp T3 hne ndx nx rls hq hR2 en2 tb2 nq hr1 fr2
  refine ⟨_, rfl, r, 41, rfl, by decide, by decide, S4.rg, fun i H5 hi m5 => ⟨(i : Int), rfl, by omega, by omega, forJ i (fun j σ H' => (∃ z, σ = [some (.ref r), some (.ref q), some (.ref x), some (.ref kA), z]) ∧ FR r H H' ∧ Tabs Tb H' ∧ ∃ dv dp Vs Ps kl, StA K H' x dv dp kA q r ms Vs Ps kl j) ?_ ?_ ?_ ?_ ?_⟩⟩
  · exact ⟨⟨none, rfl⟩, fr4.sb m5.2, tabs_mr S4.rg m5 tb4, dv, dp, [], [], [], S4.mr m5⟩
  · intro j σ H' hj _
    show j < (i : Int).toNat
    omega
  · intro σ H' _
    show (i : Int).toNat ≤ i
    omega
  · rintro j y σ H6 H6' hj ⟨⟨z, rfl⟩, fr6, tb6, dv, dp, Vs, Ps, kl, S6⟩ ⟨rfl, rfl⟩
    refine ⟨_, rfl, _, rfl, _, rfl, _, rfl, r, x, kA, q, dv, dp, ms, Vs, Ps, kl, j, rfl, S6, by omega, fun H7 Vs' Ps' kl' cf S7 => ⟨true, rfl, iteF ?_⟩⟩
    have fr7 := FR.cf fr3 nkA fr6 cf
    have tb7 := cf.tabs (fun d hd => by
      rcases List.mem_cons.mp hd with e | e
      · rw [e]
        exact S6.rlst
      · rw [List.mem_singleton.mp e]
        exact S6.klst) tb6
    refine ⟨_, rfl, r, 8, rfl, by decide, by decide, S7.rg, fun i8 H8 hi8 m8 => ⟨rfl, _, rfl, ?_⟩⟩
    have S8 := S7.mr m8
    have fr8 := fr7.sb m8.2
    have tb8 := tabs_mr S7.rg m8 tb7
    refine ite2 (fun hb => ?_) (fun hb => ?_)
    · refine ⟨_, rfl, _, rfl, _, rfl, r, x, kA, q, dv, dp, ms, Vs', Ps', kl', j + 1, rfl, S8, by omega, fun H9 m9 => ⟨true, rfl, iteF ?_⟩⟩
      exact ⟨⟨_, rfl⟩, fr8.sb m9.2, tabs_mr S8.rg m9 tb8, dv, dp, Vs', Ps', kl', S8.mr m9⟩
    · exact iteF ⟨⟨_, rfl⟩, fr8, tb8, dv, dp, Vs', Ps', kl', S8⟩
  · rintro σ H6 ⟨⟨z, rfl⟩, fr6, tb6, dv, dp, Vs, Ps, kl, S6⟩
    refine ⟨_, rfl, _, rfl, _, rfl, r, x, kA, q, dv, dp, ms, Vs, Ps, kl, i, rfl, S6, by omega, fun H8 m8 => ⟨true, rfl, iteT ?_⟩⟩
    have S8 := S6.mr m8
    exact ⟨_, rfl, _, rfl, _, rfl, r, x, kA, q, dv, dp, ms, Vs, Ps, kl, i, rfl, S8, by omega, tabs_mr S6.rg m8 tb6, fun H9 en9 tb9 => k H9 ((fr6.sb m8.2).ext en9) tb9⟩
end
end Abv
set_option Elab.async false
set_option linter.all false
set_option maxRecDepth 100000
set_option maxHeartbeats 8000000
/-! ## law -/
namespace Abv
open PySem PySem.Spec PyProof.Rows L2 LamX
/-- a comprehension over a range that gives True at each turn -/
theorem lcTrue {n : Nat} {g : TG} {te : TE} {vs : List Nat} {σ : L2.St} {H1 : Hp} {D : Addr} {Qd : Hp → Prop} (Iv : Hp → Prop) (hn : n ≤ 100000) (h0 : Iv (upd H1 D (.lst [])))
    (hs : ∀ (i : Nat) H (S : VK) (ys : List V), i < n → Iv H → H D = some (.lst ys) → (∀ H', H' D = some (.lst ys) → Iv (upd H' D (.lst (ys ++ [.bl true]))) → S (.bl true) H') → g (.int (i : Int)) (wipe σ vs) H fun σ2 H2 => wipe σ2 vs = wipe σ vs ∧ te σ2 H2 S)
    (hd : ∀ H, Iv H → H D = some (.lst ((List.replicate n true).map V.bl)) → Qd H) :
    ∃ W : Nat → Nat → Hp → Prop, (∃ m, W 0 m (upd H1 D (.lst []))) ∧ ∀ i m H, W i m H →
      ((Itr 0 n).stop i H ∧ Qd H) ∨ ((Itr 0 n).go i H ∧ ∃ Nx : Hp → Prop, (∀ H', Nx H' → ∃ m', m' < m ∧ W (i + 1) m' H') ∧ ∀ x H', (Itr 0 n).yld i H x H' → g x (wipe σ vs) H' fun σ2 H2 => wipe σ2 vs = wipe σ vs ∧ tYes σ2 H2 fun b H3 =>
        if b = true then te σ2 H3 fun y H4 => ∃ acc, H4 D = some (.lst acc) ∧ acc.length < sizeLine ∧ Nx (upd H4 D (.lst (acc ++ [y]))) else Nx H3) := by
  refine ⟨fun i m H => m = n - i ∧ i ≤ n ∧ Iv H ∧ H D = some (.lst ((List.replicate i true).map V.bl)), ⟨n, rfl, Nat.zero_le _, h0, upd_same⟩, ?_⟩
  rintro i m H ⟨rfl, hi, hM, hD⟩
  by_cases hlt : i < n
  · refine Or.inr ⟨hlt, fun H' => i + 1 ≤ n ∧ Iv H' ∧ H' D = some (.lst ((List.replicate (i + 1) true).map V.bl)), fun H' q => ⟨n - (i + 1), by omega, rfl, q⟩, fun x H' hyl => ?_⟩
    obtain ⟨rfl, rfl⟩ := hyl
    rw [Int.zero_add]
    have h := hs i H' (fun y H4 => ∃ acc, H4 D = some (.lst acc) ∧ acc.length < sizeLine ∧ (i + 1 ≤ n ∧ Iv (upd H4 D (.lst (acc ++ [y]))) ∧ (upd H4 D (.lst (acc ++ [y]))) D = some (.lst ((List.replicate (i + 1) true).map V.bl)))) _ hlt hM hD fun H4 h4 iv => ?_
    · exact h
    refine ⟨_, h4, by rw [List.length_map, List.length_replicate, sizeLine_eq]; omega, hlt, iv, ?_⟩
    rw [upd_same, List.replicate_succ', List.map_append]
    rfl
  · have : i = n := by omega
    subst this
    exact Or.inl ⟨Nat.le_refl _, hd H hM hD⟩
/-- all stays but the tables, the dicts -/
def XD (H H' : Hp) : Prop := ∀ b o, H b = some o → (∀ ps, o ≠ .tbl ps) → (∀ kvs, o ≠ .dK kvs) → H' b = some o
theorem all_true (n : Nat) : (List.replicate n true).all id = true := by
  induction n with
  | zero => rfl
  | succ n ih =>
    rw [List.replicate_succ, List.all_cons, ih]
    rfl
section
variable {P : Program} {w : World} {K : PySem.W.Frag} {mg : Str → Option Value} {base : Heap}
theorem XD.seqL {H H' : Hp} {a : Addr} {xs : List V} (e : XD H H') (h : SqL K H a xs) : SqL K H' a xs := by
  rcases h with (h | ⟨o, h⟩) | ⟨o, its, n, h, hc, rest⟩
  · exact .inl (.inl (e _ _ h (fun _ z => by cases z) (fun _ z => by cases z)))
  · exact .inl (.inr ⟨o, e _ _ h (fun _ z => by cases z) (fun _ z => by cases z)⟩)
  · exact .inr ⟨o, its, n, h, hc, rest⟩
def spLaw (K : PySem.W.Frag) (Tb : List (Addr × Str)) : Sp := fun vs H Q _ => ∃ (a : Addr) (ns : List Int), vs = [.ref a] ∧ SqL K H a (ns.map V.int) ∧ ns.length ≤ 63 ∧ Tabs Tb H ∧ ∀ H', Q (.bl true) H'
abbrev s_law : Stmt := top 63
abbrev n_law : List Str := ["_law_script", "_law_k"]
theorem sc_law : FnScope n_law ["_law_script"] (defScope s_law) := ⟨rfl, rfl, rfl, by decide +kernel, rfl, by decide +kernel, by decide +kernel⟩
theorem ok_law (T : Tx K mg) (Y : Ty K) (Z : Xs P K) (X : Xo K) {Tb : List (Addr × Str)} (L : Tbs K mg base Tb) : ClG CX0 P w K mg base 14 "law" (spLaw K Tb) := by
  have C_right : ClG CX0 P w K mg base 13 "_law_right" (spRight K Tb) := ok_right T Y Z X L
  have C__law_rng : Cl CX0 P w K mg base 1 "_law_rng" (spRng K) := ok_rng T
  refine clG0 T.f_law sc_law (fun _ _ _ _ _ _ us hl => match us, hl with | [_], _ => rfl) (fun vs H Q E h => ?_) (fun f cdv A outer s H vs Q E hgu hr h => ?_)
  · obtain ⟨a, ns, rfl, _⟩ := h
    rfl
  obtain ⟨a, ns, rfl, hs, hl, TB, k⟩ := h
  have hg2 : (A.deeper (envOfC "law" (defScope s_law) s.heap.objs.size f cdv)).guards = some [] := hgu
  refine ⟨_, PSs.nox (pss_one (ps_ret (pe_callB (id := "all") (allK (K := K)) (by rfl) T.b_all (by decide +kernel) (pa_cons (pe_lc (own := [("_law_k", 1)]) rfl sc_law.nd (pi_range1 rfl T.b_range (pa_cons (pe_callB (id := "max") (call_max2 rfl) (by rfl) T.b_max (by decide +kernel) (pa_cons pe_int (pa_cons (pe_callB (id := "min") (call_min2 rfl) (by rfl) T.b_min (by decide +kernel) (pa_cons (pe_callB (id := "len") (lenK (K := K)) (by rfl) T.b_len (by decide +kernel) (pa_cons (pv 0) pa_nil)) (pa_cons pe_int pa_nil))) pa_nil))) pa_nil)) (blkOk_by (own := [("_law_k", 1)]) (N := n_law) (sc := defScope s_law) (by decide +kernel)) (fun _ _ _ _ _ => (pg_name (i := 1) sc_law.nd rfl (Or.inl rfl))) (fun _ _ _ _ _ => pts_nil) (fun _ _ _ _ _ => (pe_clg C_right (by exact hg2) hr (by decide) pass0 rfl (pa_cons (pe_cl C__law_rng hr (by decide) pass0 rfl (pa_cons (pv 0) (pa_cons (pv 1) pa_nil))) pa_nil)))) pa_nil)))), ?_⟩
  refine ⟨_, rfl, _, ns.length, rfl, .inl ⟨_, hs, by rw [List.length_map]⟩, _, _, rfl, _, _, rfl, ?_⟩
  generalize hm : (if (5 : Int) < (ns.length : Int) then (5 : Int) else (ns.length : Int)) = m
  generalize hN : (if m > 1 then m else 1) = N
  have b1 : 0 ≤ N ∧ N ≤ 5 := by
    rw [← hN, ← hm]
    constructor <;> split <;> split <;> omega
  refine ⟨N, rfl, by omega, by omega, fun D nD => ?_⟩
  have tb0 := TB.ext (Same.new (u := .lst []) nD)
  refine lcTrue (n := N.toNat) (fun H' => XD H H' ∧ Tabs Tb H') (by omega) ⟨fun b o h _ _ => Same.new nD _ _ h, tb0⟩ (fun i H2 SS ys hi hI hD hS => ⟨rfl, ?_⟩) (fun H2 hI hD => ?_)
  · obtain ⟨xd, tb⟩ := hI
    refine ⟨_, rfl, _, rfl, a, ns, i, rfl, xd.seqL hs, by omega, by omega, fun r H3 e3 nr hR => ?_⟩
    refine ⟨r, rfl, hR, tb.ext e3, fun H4 fr tb4 => ?_⟩
    have hDr : D ≠ r := ne_of_none hD nr
    have hD4 := fr _ _ (e3 _ _ hD) hDr (fun _ z => by cases z) (fun _ z => by cases z)
    refine hS _ hD4 ⟨fun b o h n1 n2 => ?_, tabs_upd tb4 hD4⟩
    rw [upd_ne (ne_of_none h nD)]
    have h2 := xd b o h n1 n2
    exact fr _ _ (e3 _ _ h2) (ne_of_none h2 nr) n1 n2
  · refine ⟨D, _, rfl, SqL.of hD, ?_⟩
    rw [all_true]
    exact k _
end
end Abv
set_option Elab.async false
set_option linter.all false
set_option maxRecDepth 100000
set_option maxHeartbeats 4000000
/-! ## The law's call at the head's end, for a promise that holds where no repr runs -/
namespace Abv
open PySem PySem.Spec PyProof.Rows L2 LamX
section
variable {P : Program} {w : World} {K : PySem.W.Frag} {mg mb : Str → Option Value} {k : Nat} {fa a : Addr} {cs : List (Addr × Addr)} {sp : Sp} {st : Shared} {vs : List Value} {ns : List Int}
/-- the script's list -/
abbrev scr (vs : List Value) : Obj := { cls := .type "list", data := .seq vs.toArray }
open Classical in
/-- what is followed: the tables, the script (unless it stands in the written part) -/
noncomputable def trk0 (K : PySem.W.Frag) (cs : List (Addr × Addr)) (a : Addr) (vs : List Value) (ns : List Int) : Hp := fun b =>
  if ∃ p ∈ cs, p.2 = b then some (.tbl #[]) else if b = a ∧ K.lookup a = none then some (.frz (scr vs) (.lst (ns.map V.int))) else none
theorem trk0_tab {p : Addr × Addr} (hp : p ∈ cs) : trk0 K cs a vs ns p.2 = some (.tbl #[]) := if_pos ⟨p, hp, rfl⟩
theorem trk0_cases {b : Addr} {u : HO} (h : trk0 K cs a vs ns b = some u) : (∃ p ∈ cs, p.2 = b ∧ u = .tbl #[]) ∨ (b = a ∧ K.lookup a = none ∧ u = .frz (scr vs) (.lst (ns.map V.int))) := by
  unfold trk0 at h
  split at h
  · rename_i q
    obtain ⟨p, hp, e⟩ := q
    cases h
    exact .inl ⟨p, hp, e, rfl⟩
  · split at h
    · rename_i q
      cases h
      exact .inr ⟨q.1, q.2, rfl⟩
    · cases h
/-- what is no table, no list is not followed -/
theorem trk0_no (tabs : ∀ p ∈ cs, st.heap.get? p.2 = some tab0) (ha : st.heap.get? a = some (scr vs)) {b : Addr} {o : Obj} (h : st.heap.get? b = some o) (n1 : o.data ≠ .fields #[]) (n2 : o.data ≠ .seq vs.toArray) : trk0 K cs a vs ns b = none := by
  cases q : trk0 K cs a vs ns b with
  | none => rfl
  | some u =>
    rcases trk0_cases q with ⟨p, hp, e, _⟩ | ⟨e, _, _⟩
    · rw [← e, tabs p hp] at h
      cases h
      exact absurd rfl n1
    · rw [e, ha] at h
      cases h
      exact absurd rfl n2
theorem law_callG (KX : K.In st.heap) (hns : st.heap.Ns mainGlobals mg) (hb : st.heap.Ns builtinsNs mb) (hbb : ∀ x : Str, x ≠ "__name__" → mb x = bootBuiltins x) (hlim : st.heap.NoLimit) (hg : st.gens = #[])
    (tabs : ∀ p ∈ cs, st.heap.get? p.2 = some tab0) (out : ∀ p ∈ cs, K.lookup p.2 = none) (hd : ∀ p ∈ cs, PySem.W.CodeHd st.heap p.1 p.2)
    (hbm : ∃ (bm : Addr) (ob : Obj), mg "__builtins__" = some (.ref bm) ∧ bm ≠ builtinsNs ∧ st.heap.get? bm = some ob ∧ ob.cls = .type "module" ∧ ob.dict = some builtinsNs ∧ ob.data = .plain)
    (ha : st.heap.get? a = some (scr vs)) (hi : IntsAre vs ns) (hl : ns.length ≤ sizeLine) (hr : Room k callerA)
    (F : ∀ base : Heap, K.In base → base.Ns mainGlobals mg → (∀ p ∈ cs, TabB base mg p.1 p.2) → FnRG P w K mg base CX0 k fa sp)
    (hsp : ∀ H : Hp, (∀ p ∈ cs, H p.2 = some (.tbl #[])) → SqL K H a (ns.map V.int) → sp [.ref a] H (fun v _ => v = .bl true) fun _ _ _ => False) :
    codeAny (model P w) callerA (.call (.ref fa) ⟨[.ref a], []⟩) (fun r s' => r = .ok (.ret (.bool true)) ∧ OldK st.heap s'.heap ∧ s'.os = st.os ∧ AllBare s'.gens) st := by
  have rv := vals_ints hi
  have lv := hi.length
  have low : ∀ {b : Addr} {o : Obj}, st.heap.get? b = some o → o.data ≠ .fields #[] → o.data ≠ .seq vs.toArray → (hidT st.heap (trk0 K cs a vs ns)).get? b = some o := fun h n1 n2 => hidT_get h (trk0_no tabs ha h n1 n2)
  have nsB : ∀ {b : Addr} {m : Str → Option Value}, st.heap.Ns b m → (hidT st.heap (trk0 K cs a vs ns)).Ns b m := by
    rintro b m ⟨o, es, ep, e, q, rest⟩
    exact ⟨o, es, ep, low e (by rw [q]; exact fun z => by cases z) (by rw [q]; exact fun z => by cases z), q, rest⟩
  have kB : K.In (hidT st.heap (trk0 K cs a vs ns)) := fun b o e => by
    refine hidT_get (KX b o e) ?_
    cases q : trk0 K cs a vs ns b with
    | none => rfl
    | some u =>
      rcases trk0_cases q with ⟨p, hp, e2, _⟩ | ⟨e2, hk, _⟩
      · rw [← e2, out p hp] at e
        cases e
      · rw [e2, hk] at e
        cases e
  have tB : ∀ p ∈ cs, TabB (hidT st.heap (trk0 K cs a vs ns)) mg p.1 p.2 := by
    intro p hp
    have t0 := tabs p hp
    constructor
    · obtain ⟨o, us, f1, f2, f3, f4, f5, f6, f7, g1, g2, g3, g4, more⟩ := hd p hp
      refine ⟨o, us, f1, f2, f3, f4, f5, f6, f7, low g1 (fun z => ?_) (fun z => ?_), g2, g3, g4, more⟩
      · rw [g3] at z
        cases z
        simp at g4
      · rw [g3] at z
        cases z
    · obtain ⟨bm, ob, b1, b2, b3, b4, b5, b6⟩ := hbm
      refine ⟨bm, ob, b1, b2, fun z => ?_, fun z => ?_, low b3 (fun z => ?_) (fun z => ?_), b4, b5, b6⟩
      · obtain ⟨o, es, ep, e, q, _⟩ := hns
        rw [z, e] at b3
        cases b3
        rw [q] at b6
        cases b6
      · rw [z, t0] at b3
        cases b3
        cases b6
      · rw [b6] at z
        cases z
      · rw [b6] at z
        cases z
    · intro z
      obtain ⟨o, es, ep, e, q, _⟩ := hns
      rw [z, t0] at e
      cases e
      cases q
  have okH : HOk P w (trk0 K cs a vs ns) st.heap := fun b u h => by
    rcases trk0_cases h with ⟨p, hp, e, rfl⟩ | ⟨rfl, _, rfl⟩
    · rw [← e]
      exact tabs p hp
    · exact ⟨ha, by rw [List.length_map]; exact hl, vs, _, rv, ha⟩
  have sq : SqL K (trk0 K cs a vs ns) a (ns.map V.int) := by
    cases q : K.lookup a with
    | some o =>
      have e := KX a o q
      rw [ha] at e
      cases e
      exact .inr ⟨_, vs.toArray, _, q, rfl, rfl, rfl, by rw [List.size_toArray, lv]; exact hl, by simpa using rv⟩
    | none =>
      refine .inl (.inr ⟨scr vs, ?_⟩)
      unfold trk0
      rw [if_neg, if_pos ⟨rfl, q⟩]
      rintro ⟨p, hp, e⟩
      have t0 := tabs p hp
      rw [e, ha] at t0
      cases t0
  have e0 : Env0 P w K mg (hidT st.heap (trk0 K cs a vs ns)) callerA [] st (trk0 K cs a vs ns) :=
    ⟨rfl, ⟨kB, nsB hns, ⟨mb, nsB hb, hbb⟩, by obtain ⟨mc, z1, z2⟩ := hlim; exact ⟨mc, nsB z1, z2⟩⟩, fun b o e => of_hidT e, Nat.le_of_eq (hidT_size _ _), trivial, fun b z => absurd (show b ∈ ([] : List Addr) from z) List.not_mem_nil, okH, .of_eq hg⟩
  refine codeAny_mono (F _ kB (nsB hns) tB callerA [] st _ [.ref a] [.ref a] _ _ hr rfl e0 (.cons rfl .nil) (hsp _ (fun p hp => trk0_tab hp) sq)) ?_
  intro r s' h
  cases r with
  | error e => exact False.elim h
  | ok fl =>
    cases fl with
    | next => exact False.elim h
    | brk => exact False.elim h
    | cont => exact False.elim h
    | ret u =>
      obtain ⟨v, H', os, bare, un, hok', r', q⟩ := h
      have q' : v = .bl true := q
      subst q'
      have eu : u = Value.bool true := r'
      subst eu
      have more : ∀ p ∈ cs, ∃ xs : Array Value, s'.heap.get? p.2 = some { cls := .none, data := .fields xs } := fun p hp => by
        obtain ⟨xs, z⟩ := un.tbls p.2 #[] (trk0_tab hp)
        exact ⟨_, hok' p.2 _ z⟩
      have kept : ∀ b o, (¬ ∃ p ∈ cs, p.2 = b) → st.heap.get? b = some o → s'.heap.get? b = some o := fun b o nt e => by
        cases z : trk0 K cs a vs ns b with
        | none => exact un.keep b o e z (fun y => absurd (show b ∈ ([] : List Addr) from y) List.not_mem_nil) (by simp)
        | some u =>
          rcases trk0_cases z with ⟨p, hp, e2, _⟩ | ⟨_, _, rfl⟩
          · exact absurd ⟨p, hp, e2⟩ nt
          · have z2 := un.frzs b _ _ z
            obtain ⟨y1, _⟩ := okH b _ z
            obtain ⟨y2, _⟩ := hok' b _ z2
            rw [e] at y1
            cases y1
            exact y2
      refine ⟨rfl, ⟨fun b o e => ?_, fun b o e => ?_⟩, os, bare⟩
      · by_cases c : ∃ p ∈ cs, p.2 = b
        · obtain ⟨p, hp, rfl⟩ := c
          obtain ⟨xs, z⟩ := more p hp
          have t0 := tabs p hp
          rw [e] at t0
          cases t0
          exact .inr (.inl ⟨((hd p hp).tab (tabs p hp)).isCodeTable, rfl, #[], xs, rfl, by rw [Array.empty_append]; exact z⟩)
        · exact .inl (kept b o c e)
      · by_cases c : ∃ p ∈ cs, p.2 = b
        · obtain ⟨p, hp, rfl⟩ := c
          obtain ⟨xs, z⟩ := more p hp
          exact ⟨_, z⟩
        · exact ⟨o, kept b o c e⟩
/-- what is known of the law at the head's heap h -/
def LawG (l : PySem.W.OpenLaw) (w : World) (K : PySem.W.Frag) (k n : Nat) (mg : Str → Option Value) (fa : Addr) (h : Heap) : Prop :=
  ∃ (cs : List (Addr × Addr)) (sp : Sp), (∀ p ∈ cs, h.get? p.2 = some tab0) ∧ (∀ p ∈ cs, K.lookup p.2 = none) ∧ (∀ p ∈ cs, PySem.W.CodeHd h p.1 p.2) ∧
    (∀ (H : Hp) (a : Addr) (ns : List Int), ns.length ≤ n → (∀ p ∈ cs, H p.2 = some (.tbl #[])) → SqL K H a (ns.map V.int) → sp [.ref a] H (fun v _ => v = .bl true) fun _ _ _ => False) ∧
    ∀ base : Heap, K.In base → base.Ns mainGlobals mg → (∀ p ∈ cs, TabB base mg p.1 p.2) → FnRG l.prog w K mg base CX0 k fa sp
theorem walk_G {l : PySem.W.OpenLaw} {n k : Nat} {q : Program} {loose : List Str} {XP : (Str → Option Value) → Heap → Prop} {YP : World → Heap → Prop} {d : DefRec}
    (hn : l.most = some n) (hn2 : n ≤ sizeLine) (hdf : d.params.defaults = []) (hr : Room k callerA)
    (F : ∀ (w : World) (mg : Str → Option Value) (fa : Addr) (h : Heap), YP w h → h.Ns mainGlobals mg → mg d.name = some (.ref fa) → ∃ K : PySem.W.Frag, K.In h ∧ LawG l w K k n mg fa h) :
    PySem.W.WalkO q loose XP YP l.row.toRowW d [] (fun f vs => PySem.call f vs) := by
  refine Att.attach_callB hn hdf ?_
  intro w s0 s1 mg mb fa o pm cd doc a vs ns G Y ho hd hcd hmg hobj hints hlen hbits hg
  obtain ⟨K, KX, cs, sp, h1, h2, h3, h4, h5⟩ := F w mg fa _ Y G.T.g hmg
  exact law_callG KX G.T.g G.T.b G.T.builtins G.T.nolimit hg h1 h2 h3 G.T.bmain hobj hints (Nat.le_trans hlen hn2) hr h5 fun H hH hS => h4 H a ns hlen hH hS
end
end Abv
set_option Elab.async false
set_option linter.all false
set_option maxRecDepth 100000
set_option maxHeartbeats 8000000
/-! ## The facts that were looked at -/
namespace Abv
open PySem PySem.Spec PyProof.Rows L2 LamX
theorem noDfl_ok {v : Value} (h : noDfl v = true) : v = .none := by
  cases v with
  | none => rfl
  | _ => cases h
theorem fnC_at {K : PySem.W.Frag} {a : Addr} {d : DefC} (e : fnC K a = d.val) (b : fnB K a d.qual = true) :
    ∃ oc od osl kV doc pm an cdv ct cl, K.lookup a = some ⟨oc, od, .func (PySem.W.fnX d.name d.qual (defArgs d.st) (defBody d.st) (defScope d.st) cl .none kV doc pm an cdv ct), osl⟩ ∧ cl.map (·.1) = d.cl ∧ PySem.W.codeIn K cdv d.qual = true ∧ PySem.W.keepIn K (.ref a) = true := by
  obtain ⟨kp, b⟩ := Bool.and_eq_true_iff.mp b
  unfold fnC at e
  cases q : K.lookup a with
  | none =>
    rw [q] at b
    cases b
  | some o =>
    obtain ⟨oc, od, dt, osl⟩ := o
    rw [q] at b e
    cases dt with
    | func f =>
      obtain ⟨m1, m2, m3, m4, m5, m6, m7, m8, m9, m10, m11, m12, m13, m14, m15⟩ := f
      obtain ⟨b1, b2⟩ := Bool.and_eq_true_iff.mp b
      have b2 := noDfl_ok b2
      have e : (some (m1, m2, m3, m4, m5, m6, m7.map (·.1), m15) : FnC) = d.val := e
      unfold DefC.val at e
      simp only [Option.some.injEq, Prod.mk.injEq] at e
      obtain ⟨rfl, rfl, rfl, rfl, rfl, rfl, hc, rfl⟩ := e
      have b2 : m8 = .none := b2
      subst b2
      exact ⟨oc, od, osl, m9, m10, m11, m12, m13, m14, m7, rfl, hc, b1, kp⟩
    | _ => cases b
theorem fnC_funD {K : PySem.W.Frag} {a : Addr} {d : DefC} (e : fnC K a = d.val) (b : fnB K a d.qual = true) (hc : d.cl = []) : ∃ fd, FunD K d.name d.qual (defArgs d.st) (defBody d.st) (defScope d.st) [] [] a fd := by
  obtain ⟨oc, od, osl, kV, doc, pm, an, cdv, ct, cl, h1, h2, h3, h4⟩ := fnC_at e b
  rw [hc] at h2
  have h2 := List.map_eq_nil_iff.mp h2
  subst h2
  exact ⟨_, ⟨oc, od, .none, kV, doc, pm, an, cdv, ct, osl, rfl, h1, h3, .inl ⟨rfl, rfl⟩, .inl rfl⟩, h4⟩
theorem crB_ok {K : PySem.W.Frag} {C : Addr} (h : crB K C = true) : ClX.CRead K C (.type "type") := by
  obtain ⟨h1, h2⟩ := Bool.and_eq_true_iff.mp h
  exact ⟨h1, He.eqO_ok h2⟩
theorem cvB_ok {K : PySem.W.Frag} {C : Addr} {f : Str} {v : V} (h : cvB K C f v = true) : ∃ u, ClX.CVal K C (.type "type") f v u := by
  unfold cvB at h
  split at h
  · rename_i u e
    exact ⟨u, e, He.relB_ok h⟩
  · cases h
theorem cmB_ok {K : PySem.W.Frag} {C : Addr} {m : Str} (h : cmB K C m = true) : ClX.CMet K C (.type "type") m (cmP K C m) (cmG K C m) := by
  obtain ⟨h1, h⟩ := Bool.and_eq_true_iff.mp h
  obtain ⟨h2, h3⟩ := Bool.and_eq_true_iff.mp h
  refine ⟨?_, ?_, h3⟩
  · split at h1
    · rename_i i p c e
      obtain ⟨g1, g2⟩ := Bool.and_eq_true_iff.mp h1
      have g1 := of_decide_eq_true g1
      have g2 := of_decide_eq_true g2
      subst g1 g2
      unfold cmP
      rw [e]
    · cases h1
  · split at h2
    · rename_i g r e
      refine ⟨r, ?_⟩
      unfold cmG
      rw [e]
    · cases h2
theorem icB_ok {K : PySem.W.Frag} {C : Addr} (h : icB K C = true) : IsC K C := by
  obtain ⟨h1, h⟩ := Bool.and_eq_true_iff.mp h
  obtain ⟨h2, h⟩ := Bool.and_eq_true_iff.mp h
  obtain ⟨h3, h⟩ := Bool.and_eq_true_iff.mp h
  obtain ⟨h4, h⟩ := Bool.and_eq_true_iff.mp h
  obtain ⟨h5, h⟩ := Bool.and_eq_true_iff.mp h
  exact ⟨He.eqO_ok h1, He.eqO_ok h2, of_decide_eq_true h3, of_decide_eq_true h4, of_decide_eq_true h5, fun t ht => of_decide_eq_true (List.all_eq_true.mp h t ht)⟩
theorem xcB_ok {K : PySem.W.Frag} {C : Addr} {Bn nw ini : String} {bm : List Value} (FB : ExcBaseFacts Bn nw ini bm) (SF : StoreFacts Bn bm "object.__setattr__" "object") (KF : PySem.W.KxsFacts Bn ini) (h : xcB K C Bn nw ini bm = true) : ExC K C Bn nw ini bm := by
  obtain ⟨h1, h⟩ := Bool.and_eq_true_iff.mp h
  obtain ⟨h2, h⟩ := Bool.and_eq_true_iff.mp h
  obtain ⟨h3, h⟩ := Bool.and_eq_true_iff.mp h
  obtain ⟨h4, h⟩ := Bool.and_eq_true_iff.mp h
  obtain ⟨h5, h⟩ := Bool.and_eq_true_iff.mp h
  obtain ⟨h6, h⟩ := Bool.and_eq_true_iff.mp h
  obtain ⟨h7, h⟩ := Bool.and_eq_true_iff.mp h
  obtain ⟨h8, h⟩ := Bool.and_eq_true_iff.mp h
  obtain ⟨h9, h10⟩ := Bool.and_eq_true_iff.mp h
  exact ⟨FB, SF, KF, h1, h2, h3, He.eqO_ok h4, of_decide_eq_true h5, of_decide_eq_true h6, of_decide_eq_true h7, h8, He.eqO_ok h9, He.eqO_ok h10⟩
theorem fileB_ok {K : PySem.W.Frag} {file : Str} {c : Addr} (h : fileB K file (.ref c) = true) : ∃ zO1 o2 vs o4 f zTf, K.lookup c = some ⟨zO1, o2, .fields vs, o4⟩ ∧ vs[2]? = some (.str f zTf) ∧ (file == f) = true := by
  unfold fileB at h
  simp only at h
  split at h
  · rename_i zO1 o2 vs o4 e
    split at h
    · rename_i f zTf e2
      exact ⟨zO1, o2, vs, o4, f, zTf, e, e2, h⟩
    · cases h
  · cases h
theorem cellB_ok {K : PySem.W.Frag} {C : Addr} {l : List (Str × Addr)} (h : cellB K C l = true) : ∃ y cc zO1 o2 o4, l = [(y, cc)] ∧ K.lookup cc = some ⟨zO1, o2, .cell (some (.ref C)), o4⟩ := by
  unfold cellB at h
  split at h
  · rename_i y cc
    split at h
    · rename_i zO1 o2 c o4 e
      have ec := of_decide_eq_true h
      subst ec
      exact ⟨y, cc, zO1, o2, o4, rfl, e⟩
    · cases h
  · cases h
theorem xfB_ok {P : Program} {K : PySem.W.Frag} {C f : Addr} {d : DefC} (hn : d.name = "__init__") (hc : d.cl = [("__class__" : Str)]) (ht : (P.main.scope.names.lookup ("super" : Str)).isSome = false) (e : fnC K f = d.val) (h : xfB K C f P.main.file d.qual = true) : ExF P K C f d.qual d.st := by
  obtain ⟨b, h⟩ := Bool.and_eq_true_iff.mp h
  obtain ⟨h1, h⟩ := Bool.and_eq_true_iff.mp h
  obtain ⟨h2, h3⟩ := Bool.and_eq_true_iff.mp h
  obtain ⟨oc, od, osl, kV, doc, pm, an, cdv, ct, cl, k1, k2, k3, k4⟩ := fnC_at e b
  rw [hc] at k2
  rw [k1] at h1
  obtain ⟨g1, g2⟩ := Bool.and_eq_true_iff.mp h1
  have g1 : fileB K P.main.file cdv = true := g1
  have g2 : cellB K C cl = true := g2
  obtain ⟨cda, rfl⟩ := He.codeIn_ref k3
  obtain ⟨y, cc, c1, c2, c4, rfl, q⟩ := cellB_ok g2
  obtain ⟨d1, d2, vs, d4, fl, zTf, q2, q3, g3⟩ := fileB_ok g1
  have ey : y = "__class__" := by
    injection k2
  subst ey
  rw [hn] at k1
  exact ⟨⟨cda, cc, oc, od, kV, doc, pm, ct, an, osl, d1, d2, vs, d4, fl, zTf, c1, c2, c4, k1, k3, q2, q3, g3, q⟩, He.eqO_ok h2, of_decide_eq_true h3, ht⟩
/-! ### the facts -/
section
variable {K : PySem.W.Frag} {h : Heap} {mg : Str → Option Value}
structure ExZ (K : PySem.W.Frag) : Prop where
  ts : He.tupB K "SORTS" [.str "int", .str "text", .str "truth"] = true
  cr : crB K (CL K) = true
  mo : cvB K (CL K) "MOST" (.int 4) = true
  ot : cmB K (CL K) "of_text" = true
  og : fnB K (cmG K (CL K) "of_text") "Label.of_text" = true
  il : icB K (CL K) = true
  xIL : xcB K (He.ga K "InvalidLabel") "ValueError" "ValueError.__new__" "ValueError.__init__" bmV = true
  xIK : xcB K (He.ga K "InvalidKey") "ValueError" "ValueError.__new__" "ValueError.__init__" bmV = true
  xNE : xcB K (He.ga K "NoEntry") "LookupError" "LookupError.__new__" "LookupError.__init__" bmL = true
  fIL : xfB K (He.ga K "InvalidLabel") (He.ma K (He.ga K "InvalidLabel") "__init__") prg.main.file "InvalidLabel.__init__" = true
  fIK : xfB K (He.ga K "InvalidKey") (He.ma K (He.ga K "InvalidKey") "__init__") prg.main.file "InvalidKey.__init__" = true
  fNE : xfB K (He.ga K "NoEntry") (He.ma K (He.ga K "NoEntry") "__init__") prg.main.file "NoEntry.__init__" = true
  oIL : xoB K (He.ga K "InvalidLabel") = true
  oIK : xoB K (He.ga K "InvalidKey") = true
  oNE : xoB K (He.ga K "NoEntry") = true
  ne : (He.cT K ("_law_labels", none)).2 ≠ (He.cT K ("_law_entries", none)).2
theorem exZ_of (e : exB K = true) : ExZ K := by
  unfold exB at e
  obtain ⟨h1, e⟩ := Bool.and_eq_true_iff.mp e
  obtain ⟨h2, e⟩ := Bool.and_eq_true_iff.mp e
  obtain ⟨h3, e⟩ := Bool.and_eq_true_iff.mp e
  obtain ⟨h4, e⟩ := Bool.and_eq_true_iff.mp e
  obtain ⟨h5, e⟩ := Bool.and_eq_true_iff.mp e
  obtain ⟨h6, e⟩ := Bool.and_eq_true_iff.mp e
  obtain ⟨h7, e⟩ := Bool.and_eq_true_iff.mp e
  obtain ⟨h8, e⟩ := Bool.and_eq_true_iff.mp e
  obtain ⟨h9, e⟩ := Bool.and_eq_true_iff.mp e
  obtain ⟨h10, e⟩ := Bool.and_eq_true_iff.mp e
  obtain ⟨h11, e⟩ := Bool.and_eq_true_iff.mp e
  obtain ⟨h12, e⟩ := Bool.and_eq_true_iff.mp e
  obtain ⟨h13, e⟩ := Bool.and_eq_true_iff.mp e
  obtain ⟨h14, e⟩ := Bool.and_eq_true_iff.mp e
  obtain ⟨h15, e⟩ := Bool.and_eq_true_iff.mp e
  exact ⟨h1, h2, h3, h4, h5, h6, h7, h8, h9, h10, h11, h12, h13, h14, h15, of_decide_eq_true e⟩
theorem SaysZ.fn_ (z : SaysZ h K) (i : Nat) {d : DefC} (hd : zDc[i]? = some d := by rfl) : fnC K (d.at_ K) = d.val := by
  have e := congrArg (fun l => l[i]?) z.fc
  simp only [List.getElem?_map, hd, Option.map_some] at e
  exact Option.some.inj e
theorem txZ (X : K.In h) (G : h.Ns mainGlobals mg) (z : SaysZ h K) : Tx K mg := by
  have c := z.d
  have ts := (exZ_of z.ex).ts
  exact {
  b_len := He.free_ok X G (c.fact 0 (f := .free "len") rfl)
  b_abs := He.free_ok X G (c.fact 1 (f := .free "abs") rfl)
  b_max := He.free_ok X G (c.fact 2 (f := .free "max") rfl)
  b_min := He.free_ok X G (c.fact 3 (f := .free "min") rfl)
  b_int := He.free_ok X G (c.fact 4 (f := .free "int") rfl)
  b_bool := He.free_ok X G (c.fact 5 (f := .free "bool") rfl)
  b_divmod := He.free_ok X G (c.fact 6 (f := .free "divmod") rfl)
  b_sorted := He.free_ok X G (c.fact 7 (f := .free "sorted") rfl)
  b_tuple := He.free_ok X G (c.fact 8 (f := .free "tuple") rfl)
  b_all := He.free_ok X G (c.fact 9 (f := .free "all") rfl)
  b_any := He.free_ok X G (c.fact 10 (f := .free "any") rfl)
  b_repr := He.free_ok X G (c.fact 11 (f := .free "repr") rfl)
  b_isinstance := He.free_ok X G (c.fact 12 (f := .free "isinstance") rfl)
  b_enumerate := He.free_ok X G (c.fact 13 (f := .free "enumerate") rfl)
  b_range := He.free_ok X G (c.fact 14 (f := .free "range") rfl)
  b_str := He.free_ok X G (c.fact 15 (f := .free "str") rfl)
  b_list := He.free_ok X G (c.fact 16 (f := .free "list") rfl)
  b_super := He.free_ok X G (c.fact 17 (f := .free "super") rfl)
  c_INT := by
    obtain ⟨t, h⟩ := He.str_ok X G (c.fact 18 (f := .str "INT" "int") rfl)
    exact ⟨_, h, t, rfl⟩
  c_TEXT := by
    obtain ⟨t, h⟩ := He.str_ok X G (c.fact 19 (f := .str "TEXT" "text") rfl)
    exact ⟨_, h, t, rfl⟩
  c_TRUTH := by
    obtain ⟨t, h⟩ := He.str_ok X G (c.fact 20 (f := .str "TRUTH" "truth") rfl)
    exact ⟨_, h, t, rfl⟩
  c_LETTERS := by
    obtain ⟨t, h⟩ := He.str_ok X G (c.fact 21 (f := .str "LETTERS" "abcdefghijklmnopqrstuvwxyz") rfl)
    exact ⟨_, h, t, rfl⟩
  c_QUOTE := by
    obtain ⟨t, h⟩ := He.str_ok X G (c.fact 22 (f := .str "QUOTE" "'") rfl)
    exact ⟨_, h, t, rfl⟩
  c_EMPTY_TEXT := by
    obtain ⟨t, h⟩ := He.str_ok X G (c.fact 23 (f := .str "EMPTY_TEXT" "empty") rfl)
    exact ⟨_, h, t, rfl⟩
  c_TRUE_TEXT := by
    obtain ⟨t, h⟩ := He.str_ok X G (c.fact 24 (f := .str "TRUE_TEXT" "true") rfl)
    exact ⟨_, h, t, rfl⟩
  c_FALSE_TEXT := by
    obtain ⟨t, h⟩ := He.str_ok X G (c.fact 25 (f := .str "FALSE_TEXT" "false") rfl)
    exact ⟨_, h, t, rfl⟩
  c_BETWEEN_MARKS := by
    obtain ⟨t, h⟩ := He.str_ok X G (c.fact 26 (f := .str "BETWEEN_MARKS" "+") rfl)
    exact ⟨_, h, t, rfl⟩
  c_NO_MARKS := by
    obtain ⟨t, h⟩ := He.str_ok X G (c.fact 27 (f := .str "NO_MARKS" "-") rfl)
    exact ⟨_, h, t, rfl⟩
  c_LONGEST_NAME := by
    obtain ⟨t, h⟩ := He.int_ok X G (c.fact 28 (f := .int "LONGEST_NAME" 8) rfl)
    exact ⟨_, h, t, rfl⟩
  c_LONGEST_STRING := by
    obtain ⟨t, h⟩ := He.int_ok X G (c.fact 29 (f := .int "LONGEST_STRING" 60) rfl)
    exact ⟨_, h, t, rfl⟩
  c_SORTS := ⟨_, He.glo_ok X G (c.fact 30 (f := .glo "SORTS") rfl), rfl⟩
  t_SORTS := fun H => He.tupB_ok (vs := [.str "int", .str "text", .str "truth"]) ts H
  g_IndexTree := He.glo_ok X G (c.fact 31 (f := .glo "IndexTree") rfl)
  g_InvalidError := He.glo_ok X G (c.fact 32 (f := .glo "InvalidError") rfl)
  g_InvalidKey := He.glo_ok X G (c.fact 33 (f := .glo "InvalidKey") rfl)
  g_InvalidLabel := He.glo_ok X G (c.fact 34 (f := .glo "InvalidLabel") rfl)
  g_InvalidName := He.glo_ok X G (c.fact 35 (f := .glo "InvalidName") rfl)
  g_InvalidText := He.glo_ok X G (c.fact 36 (f := .glo "InvalidText") rfl)
  g_Label := He.glo_ok X G (c.fact 37 (f := .glo "Label") rfl)
  g_LimitError := He.glo_ok X G (c.fact 38 (f := .glo "LimitError") rfl)
  g_MissingError := He.glo_ok X G (c.fact 39 (f := .glo "MissingError") rfl)
  g_NoEntry := He.glo_ok X G (c.fact 40 (f := .glo "NoEntry") rfl)
  g_TooMany := He.glo_ok X G (c.fact 41 (f := .glo "TooMany") rfl)
  f_told_error := ⟨He.glo_ok X G (c.fact 42 (f := .glo "told_error") rfl), (c.def_ 0 rfl)⟩
  f_is_name := ⟨He.glo_ok X G (c.fact 43 (f := .glo "is_name") rfl), (c.def_ 1 rfl)⟩
  f_is_integer := ⟨He.glo_ok X G (c.fact 44 (f := .glo "is_integer") rfl), (c.def_ 2 rfl)⟩
  f_is_value := ⟨He.glo_ok X G (c.fact 45 (f := .glo "is_value") rfl), (c.def_ 3 rfl)⟩
  f_is_any_value := ⟨He.glo_ok X G (c.fact 46 (f := .glo "is_any_value") rfl), (c.def_ 4 rfl)⟩
  f_is_key := ⟨He.glo_ok X G (c.fact 47 (f := .glo "is_key") rfl), (c.def_ 5 rfl)⟩
  f_value_text := ⟨He.glo_ok X G (c.fact 48 (f := .glo "value_text") rfl), (c.def_ 6 rfl)⟩
  f_in_value_order := ⟨He.glo_ok X G (c.fact 49 (f := .glo "in_value_order") rfl), (c.def_ 7 rfl)⟩
  f_want_label := ⟨He.glo_ok X G (c.fact 50 (f := .glo "want_label") rfl), (c.def_ 8 rfl)⟩
  f_marks_in_order := ⟨He.glo_ok X G (c.fact 51 (f := .glo "marks_in_order") rfl), (c.def_ 9 rfl)⟩
  f_choices := ⟨He.glo_ok X G (c.fact 52 (f := .glo "choices") rfl), (c.def_ 10 rfl)⟩
  f_want_entry := ⟨He.glo_ok X G (c.fact 53 (f := .glo "want_entry") rfl), (c.def_ 11 rfl)⟩
  f__law_rng := ⟨He.glo_ok X G (c.fact 54 (f := .glo "_law_rng") rfl), (c.def_ 12 rfl)⟩
  f__law_draw := ⟨He.glo_ok X G (c.fact 55 (f := .glo "_law_draw") rfl), (c.def_ 13 rfl)⟩
  f__law_choice := ⟨He.glo_ok X G (c.fact 56 (f := .glo "_law_choice") rfl), (c.def_ 14 rfl)⟩
  f__law_name := ⟨He.glo_ok X G (c.fact 57 (f := .glo "_law_name") rfl), (c.def_ 15 rfl)⟩
  f__law_names := ⟨He.glo_ok X G (c.fact 58 (f := .glo "_law_names") rfl), (c.def_ 16 rfl)⟩
  f__law_marks := ⟨He.glo_ok X G (c.fact 59 (f := .glo "_law_marks") rfl), (c.def_ 17 rfl)⟩
  f__law_labels := ⟨He.glo_ok X G (c.fact 60 (f := .glo "_law_labels") rfl), (c.def_ 18 rfl)⟩
  f__law_below := ⟨He.glo_ok X G (c.fact 61 (f := .glo "_law_below") rfl), (c.def_ 19 rfl)⟩
  f__law_label_text := ⟨He.glo_ok X G (c.fact 62 (f := .glo "_law_label_text") rfl), (c.def_ 20 rfl)⟩
  f__law_made_label := ⟨He.glo_ok X G (c.fact 63 (f := .glo "_law_made_label") rfl), (c.def_ 21 rfl)⟩
  f__law_sort := ⟨He.glo_ok X G (c.fact 64 (f := .glo "_law_sort") rfl), (c.def_ 22 rfl)⟩
  f__law_rank := ⟨He.glo_ok X G (c.fact 65 (f := .glo "_law_rank") rfl), (c.def_ 23 rfl)⟩
  f__law_some_value := ⟨He.glo_ok X G (c.fact 66 (f := .glo "_law_some_value") rfl), (c.def_ 24 rfl)⟩
  f__law_some_key := ⟨He.glo_ok X G (c.fact 67 (f := .glo "_law_some_key") rfl), (c.def_ 25 rfl)⟩
  f__law_entries := ⟨He.glo_ok X G (c.fact 68 (f := .glo "_law_entries") rfl), (c.def_ 26 rfl)⟩
  f__law_different := ⟨He.glo_ok X G (c.fact 69 (f := .glo "_law_different") rfl), (c.def_ 27 rfl)⟩
  f__law_outcome := ⟨He.glo_ok X G (c.fact 70 (f := .glo "_law_outcome") rfl), (c.def_ 28 rfl)⟩
  f__law_change_right := ⟨He.glo_ok X G (c.fact 71 (f := .glo "_law_change_right") rfl), (c.def_ 29 rfl)⟩
  f__law_stands := ⟨He.glo_ok X G (c.fact 72 (f := .glo "_law_stands") rfl), (c.def_ 30 rfl)⟩
  f__law_wrong := ⟨He.glo_ok X G (c.fact 73 (f := .glo "_law_wrong") rfl), (c.def_ 31 rfl)⟩
  f__law_right := ⟨He.glo_ok X G (c.fact 74 (f := .glo "_law_right") rfl), (c.def_ 32 rfl)⟩
  f_law := ⟨He.glo_ok X G (c.fact 75 (f := .glo "law") rfl), (c.def_ 33 rfl)⟩
  }
theorem tyZ (X : K.In h) (z : SaysZ h K) : Ty K := by
  have c := z.d
  have x := exZ_of z.ex
  have cr := crB_ok x.cr
  have mo := cvB_ok x.mo
  have ot : CmF K (CL K) "of_text" "Label.of_text" (inClass (top 37) 2) := ⟨⟨_, _, cmB_ok x.ot, fnC_funD (d := zDc0) (z.fn_ 0) x.og rfl⟩⟩
  have il := icB_ok x.il
  exact {
  cL := He.cls_ok (c.fact 76 (f := .cls "Label") rfl)
  cT := He.cls_ok (c.fact 77 (f := .cls "IndexTree") rfl)
  mkL := He.mkr_ok (c.fact 78 (f := .mkr "Label") rfl)
  mkT := He.mkr_ok (c.fact 79 (f := .mkr "IndexTree") rfl)
  iL := (c.def_ 34 rfl)
  iT := (c.def_ 35 rfl)
  aM := He.noat_ok (c.fact 80 (f := .noat "Label" "own_marks") rfl)
  aV := He.noat_ok (c.fact 81 (f := .noat "IndexTree" "own_values") rfl)
  aP := He.noat_ok (c.fact 82 (f := .noat "IndexTree" "own_places") rfl)
  rL := cr
  most := mo
  ofText := ot
  below := ⟨He.meth_ok (c.fact 83 (f := .meth "Label" "below") rfl), (c.def_ 36 rfl)⟩
  lstr := ⟨He.meth_ok (c.fact 84 (f := .meth "Label" "__str__") rfl), (c.def_ 37 rfl)⟩
  lrepr := ⟨He.meth_ok (c.fact 85 (f := .meth "Label" "__repr__") rfl), (c.def_ 38 rfl)⟩
  put := ⟨He.meth_ok (c.fact 86 (f := .meth "IndexTree" "put_entry") rfl), (c.def_ 39 rfl)⟩
  take := ⟨He.meth_ok (c.fact 87 (f := .meth "IndexTree" "take_entry") rfl), (c.def_ 40 rfl)⟩
  entries := ⟨He.meth_ok (c.fact 88 (f := .meth "IndexTree" "entries_at") rfl), (c.def_ 41 rfl)⟩
  steps := ⟨He.meth_ok (c.fact 89 (f := .meth "IndexTree" "steps") rfl), (c.def_ 42 rfl)⟩
  different := ⟨He.meth_ok (c.fact 90 (f := .meth "IndexTree" "different") rfl), (c.def_ 43 rfl)⟩
  tlen := ⟨He.meth_ok (c.fact 91 (f := .meth "IndexTree" "__len__") rfl), (c.def_ 44 rfl)⟩
  isL := il
  }
theorem noSuper : (prg.main.scope.names.lookup ("super" : Str)).isSome = false := by decide +kernel
theorem xsZ (z : SaysZ h K) : Xs prg K := by
  have c := z.d
  have x := exZ_of z.ex
  refine ⟨⟨xcB_ok PySem.F.excBase_ValueError PySem.F.store_ValueError PySem.W.kxs_ValueError x.xIL, xfB_ok (P := prg) (d := zDc1) rfl rfl noSuper (z.fn_ 1) x.fIL, He.noat_ok (c.fact 92 (f := .noat "InvalidLabel" "value") rfl), He.noat_ok (c.fact 93 (f := .noat "InvalidLabel" "told_parts") rfl)⟩, ⟨xcB_ok PySem.F.excBase_ValueError PySem.F.store_ValueError PySem.W.kxs_ValueError x.xIK, xfB_ok (P := prg) (d := zDc2) rfl rfl noSuper (z.fn_ 2) x.fIK, He.noat_ok (c.fact 94 (f := .noat "InvalidKey" "value") rfl), He.noat_ok (c.fact 95 (f := .noat "InvalidKey" "told_parts") rfl)⟩, ⟨xcB_ok PySem.F.excBase_LookupError PySem.F.store_LookupError PySem.W.kxs_LookupError x.xNE, xfB_ok (P := prg) (d := zDc3) rfl rfl noSuper (z.fn_ 3) x.fNE, He.noat_ok (c.fact 96 (f := .noat "NoEntry" "key") rfl), He.noat_ok (c.fact 97 (f := .noat "NoEntry" "told_parts") rfl)⟩⟩
theorem xoB_ok {C : Addr} (e : xoB K C = true) : XfC K C ∧ PySem.W.findIn K (.ref C) "told_parts" = some none ∧ PySem.W.exmAny K (.ref C) [.ref (He.ga K "InvalidError"), .ref (He.ga K "MissingError")] = some true := by
  obtain ⟨h1, e⟩ := Bool.and_eq_true_iff.mp e
  obtain ⟨h2, h3⟩ := Bool.and_eq_true_iff.mp e
  exact ⟨L2.xfB_ok h1, He.eqO_ok h2, of_decide_eq_true h3⟩
theorem xoZ (z : SaysZ h K) : Xo K := by
  have x := exZ_of z.ex
  refine ⟨fun nm hm => ?_⟩
  simp only [List.mem_cons, List.not_mem_nil, or_false] at hm
  rcases hm with rfl | rfl | rfl
  · exact xoB_ok x.oIL
  · exact xoB_ok x.oIK
  · exact xoB_ok x.oNE
/-- a def that makes a lambda -/
theorem lmZ {base : Heap} {x : Str} {st : Stmt} (gm : mg x = some (.ref (He.ga K x))) (F : ∃ fd, FunD K x x (defArgs st) (defBody st) (defScope st) [] [] (He.ga K x) fd) (tb : TabB base mg (He.cT K (x, none)).1 (He.cT K (x, none)).2) : LmF K mg base x st (He.cT K (x, none)).1 (He.cT K (x, none)).2 := by
  refine ⟨gm, ?_, tb⟩
  obtain ⟨fd, F⟩ := F
  obtain ⟨oc, od, dV, kV, doc, pm, an, cdv, ct, osl, e, lk, hcd, _⟩ := F.ex
  obtain ⟨c, rfl⟩ := He.codeIn_ref hcd
  have ec : He.codeOf K (x, none) = c := He.codeOf_eq (p := (x, none)) lk (by rw [e])
  refine ⟨fd, F, ?_⟩
  show fd.code = .ref (He.codeOf K (x, none))
  rw [ec, e]
theorem tbZ {base : Heap} (X : K.In h) (G : h.Ns mainGlobals mg) (z : SaysZ h K) (tb : ∀ p ∈ zTf.map (He.cT K), TabB base mg p.1 p.2) : Tbs K mg base [((He.cT K ("_law_labels", none)).2, lamQ "_law_labels"), ((He.cT K ("_law_entries", none)).2, lamQ "_law_entries")] := by
  have c := z.d
  refine ⟨_, _, _, _, rfl, (exZ_of z.ex).ne, lmZ (He.glo_ok X G (c.fact 60 (f := .glo "_law_labels") rfl)) (c.def_ 18 rfl) (tb _ (List.mem_map.mpr ⟨_, by simp [zTf], rfl⟩)), lmZ (He.glo_ok X G (c.fact 68 (f := .glo "_law_entries") rfl)) (c.def_ 26 rfl) (tb _ (List.mem_map.mpr ⟨_, by simp [zTf], rfl⟩))⟩
theorem lawZ {w : World} {fa : Addr} (X : K.In h) (G : h.Ns mainGlobals mg) (z : SaysZ h K) (hfa : mg ("law" : Str) = some (.ref fa)) : LawG PySem.Challenge.rw_aboveless_k61_whole_index_trees w K 14 63 mg fa h := by
  refine ⟨zTf.map (He.cT K), spLaw K [((He.cT K ("_law_labels", none)).2, lamQ "_law_labels"), ((He.cT K ("_law_entries", none)).2, lamQ "_law_entries")], ?_, ?_, ?_, ?_, ?_⟩
  · intro p hp
    obtain ⟨q, hq, rfl⟩ := List.mem_map.mp hp
    exact z.empty q hq
  · intro p hp
    obtain ⟨q, hq, rfl⟩ := List.mem_map.mp hp
    exact z.out q hq
  · intro p hp
    obtain ⟨q, hq, rfl⟩ := List.mem_map.mp hp
    exact PySem.W.codeHd_of_K X (z.hd q hq)
  · intro H a ns hl ht hs
    refine ⟨a, ns, rfl, hs, hl, fun p hp => ?_, fun _ => rfl⟩
    simp only [List.mem_cons, List.not_mem_nil, or_false] at hp
    rcases hp with rfl | rfl
    · exact TabS.nil (ht (He.cT K ("_law_labels", none)) (List.mem_map.mpr ⟨_, by simp [zTf], rfl⟩))
    · exact TabS.nil (ht (He.cT K ("_law_entries", none)) (List.mem_map.mpr ⟨_, by simp [zTf], rfl⟩))
  · intro base _ _ tb
    have T := txZ X G z
    obtain ⟨f, F, gm, _⟩ := (ok_law (P := prg) (w := w) (base := base) T (tyZ X z) (xsZ z) (xoZ z) (tbZ X G z tb)).ex
    rw [hfa] at gm
    cases gm
    exact F
end
end Abv
set_option Elab.async false
set_option linter.all false
set_option maxRecDepth 100000
set_option maxHeartbeats 0
open PySem PySem.W PySem.Calls PyProof.Rows
theorem PySem.Challenge.cw_aboveless_k61_whole_index_trees_holds : PySem.Challenge.rw_aboveless_k61_whole_index_trees.Holds := by
  w_on; o_law
  refine HandSHeadRun.head_any (r := Abv.rowR) (q := Abv.viewR) (H := Abv.hookZ 5) (ob := Abv.obZ) (M := 5000) (loose := Abv.loose) (d := HandSHeadRun.topDef Abv.rowR.prog 63) (kwd := []) Abv.obZ_eq
    (by kernel_rfl) (fun s => by kernel_rfl) Abv.runZ (by kernel_rfl) (by kernel_rfl) (by kernel_rfl) (by rfl) (by first | assumption | decide +kernel) (by decide +kernel) ⟨rfl, rfl, rfl, rfl, rfl, by decide +kernel⟩ ?hw ?hc
  case hw => w_witness2
  case hc =>
    refine Abv.walk_G (l := PySem.Challenge.rw_aboveless_k61_whole_index_trees) (n := 63) (k := 14) rfl (by decide) (by kernel_rfl) ⟨rfl, by decide, by decide⟩ ?F
    intro w mg fa h Y G hmg0
    obtain ⟨K, KX, z⟩ := Y
    have hmg : mg ("law" : PySem.Str) = some (.ref fa) := by
      have e : (HandSHeadRun.topDef Abv.rowR.prog 63).name = ("law" : PySem.Str) := by kernel_rfl
      rw [← e]
      exact hmg0
    exact ⟨K, KX, Abv.lawZ KX G z hmg⟩
