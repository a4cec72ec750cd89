import PyProof.Rows.All
import Wide.All
import OpenK.AllK
import Wide.FinOn
import KE.KStateDown
import Lean
import HandS.ForMost
import HandS.WordsExc
import HandS.Defaults
import HandS.Head0
import HandS.Head1
import HandS.Head2
import HandS.HeadEnd
import HandS.HeadHook1
import HandS.HeadHook2
import HandS.Style
import HandS.More
import HandS.NoneIn
import HandS.TupAny
import HandS.IsInst
import HandS.Codes
import HandS.Property
import HandS.Conv
import HandS.Deep
import HandS.WideBits
import HandS.SortInts
import HandS.SortRule
import HandS.Steps
import HandS.ReplaceLit
import HandS.ReplaceDef
import HandS.OwnEq
import HandS.Strs
import KE.SortData
import KE.GoesEnum
import PySem.Challenge.RW_arrowcells_k07_whole_plans_of_stores
import KE.KDictPairs
import KE.KTupSum
import KE.GoesMore
import HandS.Walk
import KE.KIntText
import PyProof.ReprLen
section -- A0
set_option Elab.async false
set_option linter.all false
set_option maxRecDepth 100000
set_option maxHeartbeats 4000000
namespace K07
open PySem PySem.Spec PyProof.Rows L2
/-! ### the text by places -/
def top (i : Nat) : Stmt := PySem.Challenge.pw_arrowcells_k07_whole_plans_of_stores.main.body.getD i (.Pass ⟨0, 0, 0, 0⟩)
abbrev FnP (K : PySem.W.Frag) (x q : Str) (st : Stmt) (f : Addr) (fd : FuncData) : Prop := FunD K x q (defArgs st) (defBody st) (defScope st) [] [] f fd
/-- a def of the module that is called by its name: where it stands, what it promises -/
structure Cal (P : Program) (w : World) (K : PySem.W.Frag) (mg : Str → Option Value) (base : Heap) (k : Nat) (x : Str) (ps : List Str) (sp : Sp) : Prop where
  ex : ∃ (f : Addr) (fd : FuncData), FnOk P w K mg base CX0 k f fd ps sp ∧ mg x = some (Value.ref f) ∧
    PySem.W.keepIn K (Value.ref f) = true ∧ (∃ (q : Str) (st : Stmt), FnP K x q st f fd) ∧ Binds K fd ps []
abbrev tCl (sp : Sp) (t : TA) : TE := tCall sp [] E0 t
section
variable {X : Cx} {k : Nat} {x : Str} {ps : List Str} {sp : Sp} {e : Expr} {es : List Expr} {t : TA} {p pos : Pos}
theorem pe_cal (C : Cal X.prog X.w X.K X.mg X.base k x ps sp) (hr : Room k X.A) (hg : Gl X x)
    (ha : PA X (e :: es) t) (hdb : (x == ("__debug__" : Str)) = false := by decide)
    (he : starEach (e :: es) X.env = (false, eval e X.env) :: starEach es X.env := by rfl) (hpl : (backTo pos (starEach es X.env)).any (·.1) = false := by rfl) :
    PE X (.Call (.Name x p) (e :: es) [] pos) (tCl sp t) := by
  obtain ⟨f, fd, F, h1, h2, _, h3⟩ := C.ex
  exact pe_call F hr hg h1 h2 h3 .nil pass0 ha hdb he hpl
/-- a module's int, text -/
theorem pe_gint {i : Int} (hg : Gl X x) (h : ∃ t, X.mg x = some (.int i t)) (hd : (x == ("__debug__" : Str)) = false := by decide) : PE X (.Name x pos) (tC (.int i)) := by
  obtain ⟨t, h⟩ := h
  exact pe_glob hg h ⟨t, rfl⟩ hd
theorem pe_gstr {z : Str} (hg : Gl X x) (h : ∃ t, X.mg x = some (.str z t)) (hd : (x == ("__debug__" : Str)) = false := by decide) : PE X (.Name x pos) (tC (.str z)) := by
  obtain ⟨t, h⟩ := h
  exact pe_glob hg h ⟨t, rfl⟩ hd
end
/-! ### short names for what rules ask -/
abbrev rAddI : R2 := rI0 fun i j => .int (i + j)
abbrev rSubI : R2 := rI0 fun i j => .int (i - j)
abbrev rMulI : R2 := rI CMul fun i j => .int (i * j)
abbrev rModI : R2 := rI (fun _ j => 0 < j) fun i j => .int (i % j)
abbrev rDivI : R2 := rI CDiv fun i j => .int (i / j)
abbrev rLtI : R2 := rI0 fun i j => .bl (decide (i < j))
abbrev rLeI : R2 := rI0 fun i j => .bl (decide (i ≤ j))
abbrev rGtI : R2 := rI0 fun i j => .bl (decide (j < i))
abbrev rGeI : R2 := rI0 fun i j => .bl (decide (j ≤ i))
abbrev rAddS : R2 := fun x y H Q => ∃ i j, x = .str i ∧ y = .str j ∧ i.length + j.length ≤ sizeLine ∧ Q (.str (i ++ j)) H
abbrev rLeS : R2 := fun x y H Q => ∃ i j, x = .str i ∧ y = .str j ∧ Q (.bl (!decide (j.cps.toList < i.cps.toList))) H
end K07
end

section -- A1
set_option Elab.async false
set_option linter.all false
set_option maxRecDepth 100000
set_option maxHeartbeats 4000000
namespace K07
open PySem PySem.Spec PyProof.Rows L2
def LET : Str := "abcdefghijklmnopqrstuvwxyz"
structure Txt (K : PySem.W.Frag) (mg : Str → Option Value) (cS cP : Addr) : Prop where
  len : mg "len" = none
  isinstance : mg "isinstance" = none
  sum : mg "sum" = none
  all : mg "all" = none
  any : mg "any" = none
  abs : mg "abs" = none
  divmod : mg "divmod" = none
  max : mg "max" = none
  min : mg "min" = none
  repr : mg "repr" = none
  int : mg "int" = none
  bool : mg "bool" = none
  str : mg "str" = none
  tuple : mg "tuple" = none
  dict : mg "dict" = none
  list : mg "list" = none
  sorted : mg "sorted" = none
  range : mg "range" = none
  enumerate : mg "enumerate" = none
  set : mg "set" = none
  END : ∃ t, mg "END" = some (.int 0 t)
  MOST_PLACE : ∃ t, mg "MOST_PLACE" = some (.int 999 t)
  MOST_CELLS : ∃ t, mg "MOST_CELLS" = some (.int 500 t)
  MOST_NAMES : ∃ t, mg "MOST_NAMES" = some (.int 4 t)
  FAR : ∃ t, mg "FAR" = some (.int 1000000000000000000000000000000 t)
  LETTERS : ∃ t, mg "LETTERS" = some (.str LET t)
  Store : mg "Store" = some (.ref cS)
  Plan : mg "Plan" = some (.ref cP)
  isStore : C8.InsC K cS
  isPlan : C8.InsC K cP
  clS : Cls K cS
  clP : Cls K cP
  nStore_names : NoAttr K cS "names"
  nStore_cells : NoAttr K cS "cells"
  nStore_places : NoAttr K cS "places"
  nStore_arrows : NoAttr K cS "arrows"
  nStore_letters : NoAttr K cS "letters"
  nPlan_shape : NoAttr K cP "shape"
  nPlan_lengths : NoAttr K cP "lengths"
  nPlan_lost : NoAttr K cP "lost"
  nPlan_letters : NoAttr K cP "letters"

abbrev rLenD : List V → Hp → VK → Prop := fun xs H Q => ∃ a kvs, xs = [V.ref a] ∧ H a = some (.dK kvs) ∧ Q (.int kvs.length) H
abbrev rLenS : List V → Hp → VK → Prop := fun xs H Q => ∃ z, xs = [.str z] ∧ z.length ≤ sizeLine ∧ Q (.int z.length) H
abbrev rLenQ (K : PySem.W.Frag) : List V → Hp → VK → Prop := fun xs H Q => ∃ p ys, xs = [.ref p] ∧ (SqL K H p ys ∨ SqT K H p ys) ∧ Q (.int ys.length) H
abbrev rIsC (C : Addr) : List V → Hp → VK → Prop := fun xs H Q => ∃ a dx fs, xs = [.ref a, .ref C] ∧ H a = some (.ins C dx fs) ∧ Q (.bl true) H
abbrev rAbs : List V → Hp → VK → Prop := fun xs H Q => ∃ i, xs = [.int i] ∧ Q (.int (if i < 0 then -i else i)) H
abbrev rMax2 : List V → Hp → VK → Prop := fun xs H Q => ∃ i j, xs = [.int i, .int j] ∧ Q (.int (if j > i then j else i)) H
abbrev rMin2 : List V → Hp → VK → Prop := fun xs H Q => ∃ i j, xs = [.int i, .int j] ∧ Q (.int (if j < i then j else i)) H
abbrev rDivmodW : List V → Hp → VK → Prop := fun xs H Q => ∃ i j, xs = [.int i, .int j] ∧ CDivP i j ∧ ∀ p, H p = none → Q (.ref p) (upd H p (.tup [.int (i / j), .int (i % j)]))
abbrev rInt1 : List V → Hp → VK → Prop := fun xs H Q => (∃ i, xs = [.int i] ∧ Q (.int i) H) ∨ ∃ k, xs = [.bl k] ∧ Q (.int (if k then 1 else 0)) H
abbrev rIntS : List V → Hp → VK → Prop := fun xs H Q => ∃ a n, xs = [.str a] ∧ PySem.intText? a = some n ∧ a.length ≤ 640 ∧ Q (.int n) H
abbrev rStrI : List V → Hp → VK → Prop := fun xs H Q => ∃ i, xs = [.int i] ∧ i.natAbs.log2 < 1920 ∧ Q (.str (toString i)) H
abbrev rTupOf (K : PySem.W.Frag) : List V → Hp → VK → Prop := fun xs H Q => ∃ p ys, xs = [.ref p] ∧ ((SqL K H p ys ∧ ∀ l, H l = none → Q (.ref l) (upd H l (.tup ys))) ∨ (SqT K H p ys ∧ Q (.ref p) H))
abbrev rSortedD : List V → Hp → VK → Prop := fun xs H Q => ∃ (a : Addr) (kvs : List (Key × V)) (ks : List Str), xs = [.ref a] ∧ Rd H a (.dK kvs) ∧ kvs.map (·.1) = ks.map Sum.inr ∧ ks.length < 64 ∧ ∀ ys p, ys.Perm ks → sortedS ys = true → H p = none → Q (.ref p) (upd H p (.lst (ys.map V.str)))
abbrev rJoin (K : PySem.W.Frag) : V → List V → Hp → VK → Prop := fun x xs H Q => ∃ a p, ∃ ys : List Str, x = .str a ∧ xs = [.ref p] ∧ (SqL K H p (ys.map V.str) ∨ SqT K H p (ys.map V.str)) ∧ (ys.map (·.length)).sum + ys.length * a.length ≤ 16777216 ∧ Q (.str (Txt.join a ys)) H
abbrev rSplit : V → List V → Hp → VK → Prop := fun x xs H Q => ∃ a b, x = .str a ∧ xs = [.str b] ∧ (b.length == 0) = false ∧ a.length + 2 ≤ sizeLine ∧ rNewStrs (Txt.split a b) H Q
abbrev rIsDigit : V → List V → Hp → VK → Prop := fun x xs H Q => ∃ a, x = .str a ∧ xs = [] ∧ True ∧ Q (.bl (Txt.isdigit a)) H
end K07
end

section -- H0
set_option Elab.async false
set_option linter.all false
set_option maxRecDepth 100000
set_option maxHeartbeats 0
namespace K07
open PySem PySem.Spec PyProof.Rows L2
/-! ### the head's own hook: facts, defs by any place -/
structure DX where
  adr : PySem.W.Frag → Addr
  name : Str
  qual : Str
  st : Stmt
def DX.val (d : DX) : He.FnW := some (d.name, d.qual, defArgs d.st, .stmts (defBody d.st), defScope d.st, mainGlobals, [], builtinsNs)
def fAt (K : PySem.W.Frag) (a : Addr) : He.FnW := match K.lookup a with
  | some o => (match o.data with
    | .func z => some (z.name, z.qualname, z.params, z.body, z.scope, z.globals, z.closure, z.builtins)
    | _ => none)
  | none => none
/-- a def of no default that stands at a -/
def plB (q : Str) (a : Addr) (K : PySem.W.Frag) : Bool := PySem.W.keepIn K (.ref a) && (match K.lookup a with
  | some o => (match o.data with
    | .func z => PySem.W.codeIn K z.code q && He.dflB K z.defaults []
    | _ => false)
  | none => false)
theorem funD_at {K : PySem.W.Frag} {a : Addr} {x q : Str} {st : Stmt} (e : fAt K a = some (x, q, defArgs st, .stmts (defBody st), defScope st, mainGlobals, [], builtinsNs)) (c : plB q a K = true) :
    ∃ fd, FunD K x q (defArgs st) (defBody st) (defScope st) [] [] a fd := by
  obtain ⟨kp, c2⟩ := He.ba c
  unfold fAt at e
  cases look : K.lookup a with
  | none => rw [look] at c2; cases c2
  | some o =>
    obtain ⟨oc, od, dt, osl⟩ := o
    rw [look] at c2 e
    cases dt with
    | func fd =>
      obtain ⟨m1, m2, m3, m4, m5, m6, m7, m8, m9, m10, m11, m12, m13, m14, m15⟩ := fd
      have e2 : (some (m1, m2, m3, m4, m5, m6, m7, m15) : He.FnW) = some (x, q, defArgs st, .stmts (defBody st), defScope st, mainGlobals, [], builtinsNs) := e
      simp only [Option.some.injEq, Prod.mk.injEq] at e2
      obtain ⟨rfl, rfl, rfl, rfl, rfl, rfl, rfl, rfl⟩ := e2
      obtain ⟨k1, k2⟩ := He.ba (show (PySem.W.codeIn K m13 _ && He.dflB K m8 []) = true from c2)
      exact ⟨_, ⟨oc, od, m8, m9, m10, m11, m12, m13, m14, osl, rfl, look, k1, He.dflB_ok k2, .inl rfl⟩, kp⟩
    | _ => cases c2
/-- isinstance against a class of the module -/
def insB (x : Str) (K : PySem.W.Frag) : Bool := He.eqO (PySem.W.findIn K (.ref (He.ga K x)) "__class__") (some (some (.builtin "object.__class__"))) &&
  (He.eqO (PySem.W.specialIn K (.builtin "object.__class__") "__get__") (some (some (.builtin "getset_descriptor.__get__"))) &&
  (decide (PySem.W.takesIn K (.builtin "object.__class__") = some true) && (decide (PySem.W.mroIn K (He.ga K x) (.type "object") = some true) && decide (PySem.W.kitOne K (.ref (He.ga K x)) (.ref (He.ga K x)) = some true))))
theorem ins_ok {K : PySem.W.Frag} {x : Str} (cl : Cls K (He.ga K x)) (h : insB x K = true) : C8.InsC K (He.ga K x) := by
  obtain ⟨h1, h⟩ := He.ba h
  obtain ⟨h2, h⟩ := He.ba h
  obtain ⟨h3, h⟩ := He.ba h
  obtain ⟨h4, h5⟩ := He.ba h
  exact ⟨cl, He.eqO_ok h1, He.eqO_ok h2, of_decide_eq_true h3, of_decide_eq_true h4, of_decide_eq_true h5⟩
/-- a property of a class: its object, its getter -/
def prpA (C x : Str) (K : PySem.W.Frag) : Addr := match PySem.W.findIn K (.ref (He.ga K C)) x with
  | some (some (.ref p)) => p
  | _ => 0
def getA (C x : Str) (K : PySem.W.Frag) : Addr := match PySem.W.recIn K (prpA C x K) "property" with
  | some (.ref g :: _) => g
  | _ => 0
def propB (C x : Str) (K : PySem.W.Frag) : Bool := He.eqO (PySem.W.findIn K (.ref (He.ga K C)) x) (some (some (.ref (prpA C x K)))) &&
  (He.eqO (PySem.W.specialIn K (.ref (prpA C x K)) "__get__") (some (some (.builtin "property.__get__"))) &&
  (decide (PySem.W.takesIn K (.ref (prpA C x K)) = some true) && (match PySem.W.recIn K (prpA C x K) "property" with
    | some (.ref _ :: _) => true
    | _ => false)))
theorem prop_ok {K : PySem.W.Frag} {C x : Str} (h : propB C x K = true) : PropOf K (He.ga K C) x (prpA C x K) (getA C x K) := by
  obtain ⟨h1, h⟩ := He.ba h
  obtain ⟨h2, h⟩ := He.ba h
  obtain ⟨h3, h4⟩ := He.ba h
  refine ⟨He.eqO_ok h1, He.eqO_ok h2, of_decide_eq_true h3, ?_⟩
  unfold getA
  split at h4
  · rename_i g rest e
    rw [e]
    exact ⟨rest, rfl⟩
  · cases h4
abbrev s_knot_order : Stmt := top 14
abbrev s_shape_of_knots : Stmt := top 15
abbrev s_knots_in : Stmt := top 16
abbrev s_is_whole : Stmt := top 24
abbrev s_is_between : Stmt := top 25
abbrev s_is_place : Stmt := top 26
abbrev s_is_letter : Stmt := top 27
abbrev s_is_pair : Stmt := top 28
abbrev s_are_knots_right : Stmt := top 30
abbrev s_has_needless_knot : Stmt := top 31
abbrev s_shape_knots : Stmt := top 32
abbrev s_are_name_pairs : Stmt := top 34
abbrev s_check_cells : Stmt := top 35
abbrev s_Store_init : Stmt := inClass (top 36) 0
abbrev s_check_store : Stmt := top 37
abbrev s_reached_cells : Stmt := top 39
abbrev s_Plan_init : Stmt := inClass (top 41) 0
abbrev s_Plan_eq : Stmt := inClass (top 41) 1
abbrev s_Plan_size : Stmt := inClass (top 41) 2
abbrev s_Plan_text : Stmt := inClass (top 41) 3
abbrev s_check_plan : Stmt := top 42
abbrev s_knot_places : Stmt := top 43
abbrev s_ordered_knots : Stmt := top 44
abbrev s_stretch_from : Stmt := top 45
abbrev s_parts_of : Stmt := top 46
abbrev s_knots_of : Stmt := top 47
abbrev s_stretches_of : Stmt := top 48
abbrev s_plan_of : Stmt := top 49
abbrev s_cells_along : Stmt := top 52
abbrev s_names_at : Stmt := top 51
abbrev s_store_of : Stmt := top 50
abbrev s_are_alike : Stmt := top 53
abbrev s_tidy : Stmt := top 54
abbrev s_law_jug : Stmt := top 56
abbrev s_law_take : Stmt := top 57
abbrev s_law_one_of : Stmt := top 58
abbrev s_law_letters : Stmt := top 59
abbrev s_law_drawn_cells : Stmt := top 60
abbrev s_law_drawn_store : Stmt := top 61
abbrev s_law_arrows : Stmt := top 62
abbrev s_law_gone_along : Stmt := top 63
abbrev s_law_knots : Stmt := top 64
abbrev s_law_plan : Stmt := top 65
abbrev s_law_plan_text : Stmt := top 66
abbrev s_law_word : Stmt := top 67
abbrev s_law_canon : Stmt := top 68
abbrev s_law_right : Stmt := top 69
abbrev s_law : Stmt := top 70
def faX : List He.Fa := [.free "len", .free "isinstance", .free "sum", .free "all", .free "any", .free "abs", .free "divmod", .free "max", .free "min", .free "repr", .free "int", .free "bool", .free "str", .free "tuple", .free "dict", .free "list", .free "sorted", .free "range", .free "enumerate", .free "set", .int "END" 0, .int "MOST_PLACE" 999, .int "MOST_CELLS" 500, .int "MOST_NAMES" 4, .int "FAR" 1000000000000000000000000000000, .str "LETTERS" LET, .glo "Store", .glo "Plan", .cls "Store", .cls "Plan", .noat "Store" "names", .noat "Store" "cells", .noat "Store" "places", .noat "Store" "arrows", .noat "Store" "letters", .noat "Plan" "shape", .noat "Plan" "lengths", .noat "Plan" "lost", .noat "Plan" "letters", .glo "knot_order", .glo "shape_of_knots", .glo "knots_in", .glo "is_whole", .glo "is_between", .glo "is_place", .glo "is_letter", .glo "is_pair", .glo "are_knots_right", .glo "has_needless_knot", .glo "shape_knots", .glo "are_name_pairs", .glo "check_cells", .mkr "Store", .glo "check_store", .glo "reached_cells", .mkr "Plan", .meth "Plan" "__eq__", .glo "check_plan", .glo "knot_places", .glo "ordered_knots", .glo "stretch_from", .glo "parts_of", .glo "knots_of", .glo "stretches_of", .glo "plan_of", .glo "cells_along", .glo "names_at", .glo "store_of", .glo "are_alike", .glo "tidy", .glo "_law_jug", .glo "_law_take", .glo "_law_one_of", .glo "_law_letters", .glo "_law_drawn_cells", .glo "_law_drawn_store", .glo "_law_arrows", .glo "_law_gone_along", .glo "_law_knots", .glo "_law_plan", .glo "_law_plan_text", .glo "_law_word", .glo "_law_canon", .glo "_law_right", .glo "law"]
def fxX : List (PySem.W.Frag → Bool) := [insB "Store", insB "Plan", propB "Plan" "size", propB "Plan" "text"]
abbrev d_knot_order : DX := ⟨fun K => He.ga K "knot_order", "knot_order", "knot_order", s_knot_order⟩
abbrev d_shape_of_knots : DX := ⟨fun K => He.ga K "shape_of_knots", "shape_of_knots", "shape_of_knots", s_shape_of_knots⟩
abbrev d_knots_in : DX := ⟨fun K => He.ga K "knots_in", "knots_in", "knots_in", s_knots_in⟩
abbrev d_is_whole : DX := ⟨fun K => He.ga K "is_whole", "is_whole", "is_whole", s_is_whole⟩
abbrev d_is_between : DX := ⟨fun K => He.ga K "is_between", "is_between", "is_between", s_is_between⟩
abbrev d_is_place : DX := ⟨fun K => He.ga K "is_place", "is_place", "is_place", s_is_place⟩
abbrev d_is_letter : DX := ⟨fun K => He.ga K "is_letter", "is_letter", "is_letter", s_is_letter⟩
abbrev d_is_pair : DX := ⟨fun K => He.ga K "is_pair", "is_pair", "is_pair", s_is_pair⟩
abbrev d_are_knots_right : DX := ⟨fun K => He.ga K "are_knots_right", "are_knots_right", "are_knots_right", s_are_knots_right⟩
abbrev d_has_needless_knot : DX := ⟨fun K => He.ga K "has_needless_knot", "has_needless_knot", "has_needless_knot", s_has_needless_knot⟩
abbrev d_shape_knots : DX := ⟨fun K => He.ga K "shape_knots", "shape_knots", "shape_knots", s_shape_knots⟩
abbrev d_are_name_pairs : DX := ⟨fun K => He.ga K "are_name_pairs", "are_name_pairs", "are_name_pairs", s_are_name_pairs⟩
abbrev d_check_cells : DX := ⟨fun K => He.ga K "check_cells", "check_cells", "check_cells", s_check_cells⟩
abbrev d_Store_init : DX := ⟨fun K => He.ma K (He.ga K "Store") "__init__", "__init__", "Store.__init__", s_Store_init⟩
abbrev d_check_store : DX := ⟨fun K => He.ga K "check_store", "check_store", "check_store", s_check_store⟩
abbrev d_reached_cells : DX := ⟨fun K => He.ga K "reached_cells", "reached_cells", "reached_cells", s_reached_cells⟩
abbrev d_Plan_init : DX := ⟨fun K => He.ma K (He.ga K "Plan") "__init__", "__init__", "Plan.__init__", s_Plan_init⟩
abbrev d_Plan_eq : DX := ⟨fun K => He.ma K (He.ga K "Plan") "__eq__", "__eq__", "Plan.__eq__", s_Plan_eq⟩
abbrev d_Plan_size : DX := ⟨getA "Plan" "size", "size", "Plan.size", s_Plan_size⟩
abbrev d_Plan_text : DX := ⟨getA "Plan" "text", "text", "Plan.text", s_Plan_text⟩
abbrev d_check_plan : DX := ⟨fun K => He.ga K "check_plan", "check_plan", "check_plan", s_check_plan⟩
abbrev d_knot_places : DX := ⟨fun K => He.ga K "knot_places", "knot_places", "knot_places", s_knot_places⟩
abbrev d_ordered_knots : DX := ⟨fun K => He.ga K "ordered_knots", "ordered_knots", "ordered_knots", s_ordered_knots⟩
abbrev d_stretch_from : DX := ⟨fun K => He.ga K "stretch_from", "stretch_from", "stretch_from", s_stretch_from⟩
abbrev d_parts_of : DX := ⟨fun K => He.ga K "parts_of", "parts_of", "parts_of", s_parts_of⟩
abbrev d_knots_of : DX := ⟨fun K => He.ga K "knots_of", "knots_of", "knots_of", s_knots_of⟩
abbrev d_stretches_of : DX := ⟨fun K => He.ga K "stretches_of", "stretches_of", "stretches_of", s_stretches_of⟩
abbrev d_plan_of : DX := ⟨fun K => He.ga K "plan_of", "plan_of", "plan_of", s_plan_of⟩
abbrev d_cells_along : DX := ⟨fun K => He.ga K "cells_along", "cells_along", "cells_along", s_cells_along⟩
abbrev d_names_at : DX := ⟨fun K => He.ga K "names_at", "names_at", "names_at", s_names_at⟩
abbrev d_store_of : DX := ⟨fun K => He.ga K "store_of", "store_of", "store_of", s_store_of⟩
abbrev d_are_alike : DX := ⟨fun K => He.ga K "are_alike", "are_alike", "are_alike", s_are_alike⟩
abbrev d_tidy : DX := ⟨fun K => He.ga K "tidy", "tidy", "tidy", s_tidy⟩
abbrev d_law_jug : DX := ⟨fun K => He.ga K "_law_jug", "_law_jug", "_law_jug", s_law_jug⟩
abbrev d_law_take : DX := ⟨fun K => He.ga K "_law_take", "_law_take", "_law_take", s_law_take⟩
abbrev d_law_one_of : DX := ⟨fun K => He.ga K "_law_one_of", "_law_one_of", "_law_one_of", s_law_one_of⟩
abbrev d_law_letters : DX := ⟨fun K => He.ga K "_law_letters", "_law_letters", "_law_letters", s_law_letters⟩
abbrev d_law_drawn_cells : DX := ⟨fun K => He.ga K "_law_drawn_cells", "_law_drawn_cells", "_law_drawn_cells", s_law_drawn_cells⟩
abbrev d_law_drawn_store : DX := ⟨fun K => He.ga K "_law_drawn_store", "_law_drawn_store", "_law_drawn_store", s_law_drawn_store⟩
abbrev d_law_arrows : DX := ⟨fun K => He.ga K "_law_arrows", "_law_arrows", "_law_arrows", s_law_arrows⟩
abbrev d_law_gone_along : DX := ⟨fun K => He.ga K "_law_gone_along", "_law_gone_along", "_law_gone_along", s_law_gone_along⟩
abbrev d_law_knots : DX := ⟨fun K => He.ga K "_law_knots", "_law_knots", "_law_knots", s_law_knots⟩
abbrev d_law_plan : DX := ⟨fun K => He.ga K "_law_plan", "_law_plan", "_law_plan", s_law_plan⟩
abbrev d_law_plan_text : DX := ⟨fun K => He.ga K "_law_plan_text", "_law_plan_text", "_law_plan_text", s_law_plan_text⟩
abbrev d_law_word : DX := ⟨fun K => He.ga K "_law_word", "_law_word", "_law_word", s_law_word⟩
abbrev d_law_canon : DX := ⟨fun K => He.ga K "_law_canon", "_law_canon", "_law_canon", s_law_canon⟩
abbrev d_law_right : DX := ⟨fun K => He.ga K "_law_right", "_law_right", "_law_right", s_law_right⟩
abbrev d_law : DX := ⟨fun K => He.ga K "law", "law", "law", s_law⟩
def fnX : List DX := [d_knot_order, d_shape_of_knots, d_knots_in, d_is_whole, d_is_between, d_is_place, d_is_letter, d_is_pair, d_are_knots_right, d_has_needless_knot, d_shape_knots, d_are_name_pairs, d_check_cells, d_Store_init, d_check_store, d_reached_cells, d_Plan_init, d_Plan_eq, d_Plan_size, d_Plan_text, d_check_plan, d_knot_places, d_ordered_knots, d_stretch_from, d_parts_of, d_knots_of, d_stretches_of, d_plan_of, d_cells_along, d_names_at, d_store_of, d_are_alike, d_tidy, d_law_jug, d_law_take, d_law_one_of, d_law_letters, d_law_drawn_cells, d_law_drawn_store, d_law_arrows, d_law_gone_along, d_law_knots, d_law_plan, d_law_plan_text, d_law_word, d_law_canon, d_law_right, d_law]
def obsX (K : PySem.W.Frag) : Bool × List He.FnW := (faX.all (fun f => f.ok K) && (fxX.all (fun f => f K) && fnX.all fun d => plB d.qual (d.adr K) K), fnX.map fun d => fAt K (d.adr K))
def valX : Bool × List He.FnW := (true, fnX.map DX.val)
def hkX : PySem.W.Hook where
  α := Bool × List He.FnW
  obs := fun s => obsX (He.frG s.heap.get? (He.asD s.heap.get? 5))
  val := fun _ => valX
  says := fun _ h => ∃ K : PySem.W.Frag, K.In h ∧ obsX K = valX
  of := fun _ _ e => ⟨_, He.frG_in, e⟩
  keeps := fun _ _ _ ⟨K, hK, c⟩ k => ⟨K, PySem.W.Frag.In.keeps hK k, c⟩
def obX (s : PySem.W.SharedT) : hkX.α := obsX (He.frG (HandSHeadRun.getT s) (He.asD (HandSHeadRun.getT s) 5))
theorem obX_eq (s : PySem.W.SharedT) : obX s = hkX.obs s.abs := by
  have e : HandSHeadRun.getT s = s.abs.heap.get? := funext (HandSHeadRun.getT_eq s)
  unfold obX
  rw [e]
  rfl
end K07
namespace K07
open PySem PySem.W PySem.Calls PyProof.Rows
abbrev RW : OpenRow := OpenLaw.row PySem.Challenge.rw_arrowcells_k07_whole_plans_of_stores
def nmA : List PySem.Str := ["_wall", "ArrowError", "InvalidNames", "InvalidPlace", "InvalidNumber", "InvalidShape", "InvalidLengths", "NotAStore", "NotAPlan", "UnknownName", "TooMany", "InvalidCells", "knot_order", "shape_of_knots", "knots_in", "LETTERS", "END", "MOST_PLACE", "MOST_CELLS", "MOST_NAMES", "FAR", "is_whole", "is_between", "is_place", "is_letter", "is_pair", "are_knots_right", "has_needless_knot", "shape_knots", "are_name_pairs", "check_cells"]
def nmB : List PySem.Str := ["Store", "check_store", "reached_cells", "Plan", "check_plan", "knot_places", "ordered_knots", "stretch_from", "parts_of", "knots_of", "stretches_of", "plan_of", "store_of", "names_at", "cells_along", "are_alike", "tidy", "_law_jug", "_law_take", "_law_one_of", "_law_letters", "_law_drawn_cells", "_law_drawn_store", "_law_arrows", "_law_gone_along", "_law_knots", "_law_plan", "_law_plan_text", "_law_word", "_law_canon", "_law_right"]
def names : List PySem.Str := nmA ++ nmB
theorem run (w : World) : HandSHeadRun.RunEq RW (view RW.prog [70]) hkX obX 8000 names w := by
  intro os
  kernel_rfl
end K07
end

section -- R1
set_option Elab.async false
set_option linter.all false
set_option maxRecDepth 100000
set_option maxHeartbeats 4000000
namespace K07
open PySem PySem.Spec PyProof.Rows L2
/-- a def called by keywords alone: ks as they are written, g puts them in the parameters' order -/
structure CalK (P : Program) (w : World) (K : PySem.W.Frag) (mg : Str → Option Value) (base : Heap) (k : Nat) (x : Str) (ps : List Str) (sp : Sp) (ks : List Str) (back : Bool) : Prop where
  ex : ∃ (f : Addr) (fd : FuncData), FnOk P w K mg base CX0 k f fd ps sp ∧ mg x = some (Value.ref f) ∧ PySem.W.keepIn K (Value.ref f) = true ∧
    ∀ (s : Shared) (ws : List Value), ws.length = ks.length → BindsTo s fd ⟨[], ks.zip ws⟩ (ps.zip (if back = true then ws.reverse else ws))
section
variable {X : Cx} {k : Nat} {C : Addr} {x : Str} {ps ks : List Str} {sp : Sp} {e o : Expr} {es : List Expr} {t tk : TA} {te ta tb : TE} {p pos : Pos} {kws : List Keyword} {back : Bool}
theorem Vals.rev : ∀ {vs : List V} {us : List Value}, Vals vs us → Vals vs.reverse us.reverse
  | _, _, .nil => .nil
  | _, _, .cons r rs => by
    rw [List.reverse_cons, List.reverse_cons]
    exact (Vals.rev rs).append (.cons r .nil)
def tKw (n : Nat) (back : Bool) (sp : Sp) (t : TA) : TE := fun σ H Q => t σ H fun vs H1 => vs.length = n ∧ sp (if back = true then vs.reverse else vs) H1 Q E0
theorem pe_calK (c : CalK X.prog X.w X.K X.mg X.base k x ps sp ks back) (hr : Room k X.A) (hg : Gl X x) (hkw : PK X kws tk) {n : Nat} (hn : ks.length = n := by rfl)
    (hall : (backToKw pos (keywordEach kws X.env)).all (·.1.isSome) = true := by rfl) (hks : (backToKw pos (keywordEach kws X.env)).filterMap (·.1) = ks := by rfl)
    (hdb : (x == ("__debug__" : Str)) = false := by decide)
    (hpl : ((backTo pos (starEach [] X.env)).any (·.1) || (backToKw pos (keywordEach kws X.env)).any (·.1.isNone)) = false := by rfl) :
    PE X (.Call (.Name x p) [] kws pos) (tKw n back sp tk) := by
  subst hn
  obtain ⟨f, fd, F, hm, hk, hb⟩ := c.ex
  refine ⟨fun pins s σ H Q I h => wpAny_Call_Name_kw (ld_glob I hg hm (PySem.W.callWith_KW0 (h₀ := X.base) I.ok.mod.kin hk hall ?_ hpl) hdb)⟩
  refine thn (hkw.run pos pins s σ H _ I h) fun ws s2 ⟨zs, H2, I2, rz, l2, q2⟩ => ⟨I2.kIn, ?_⟩
  rw [hks]
  have r2 : Vals (if back = true then zs.reverse else zs) (if back = true then ws.reverse else ws) := by
    cases back with
    | true => exact Vals.rev rz
    | false => exact rz
  refine wpAny_call (codeAny_mono (F.run X.A X.stack s2 H2 ⟨[], ks.zip ws⟩ _ _ Q E0 hr I2.env0 (hb s2 ws (rz.length.symm.trans l2)) r2 q2) fun r s' hq => ?_)
  cases r with
  | error er => exact False.elim hq
  | ok fl =>
    cases fl with
    | ret u => exact I2.after hq
    | next => exact False.elim hq
    | brk => exact False.elim hq
    | cont => exact False.elim hq
/-- == of two instances by the class's own == -/
structure CalEq (P : Program) (w : World) (K : PySem.W.Frag) (mg : Str → Option Value) (base : Heap) (k : Nat) (C : Addr) (sp : Sp) : Prop where
  ex : ∃ (f : Addr) (fd : FuncData), FnOk P w K mg base CX0 k f fd ["self", "other"] sp ∧ PySem.W.findIn K (.ref C) "__eq__" = some (some (.ref f)) ∧
    PySem.W.isFn K (.ref f) = true ∧ Binds K fd ["self", "other"] []
def rPeq (C : Addr) (sp : Sp) : R2 := fun x y H Q => ∃ a b dx dy fs gs, x = .ref a ∧ y = .ref b ∧ H a = some (.ins C dx fs) ∧ H b = some (.ins C dy gs) ∧ sp [.ref a, .ref b] H (fun v H' => (∃ c, v = .bl c) ∧ Q v H') E0
theorem op_peq (c : CalEq X.prog X.w X.K X.mg X.base k C sp) (hr : Room k X.A) : OpR X (compareOp .Eq) (rPeq C sp) := by
  intro pins s σ H x y v u Q I rx ry hq
  obtain ⟨f, fd, F, hs, hf, hb⟩ := c.ex
  obtain ⟨a, b, dx, dy, fs, gs, rfl, rfl, ha, hb', hsp⟩ := hq
  cases rx
  cases ry
  obtain ⟨mA, J, _⟩ := ins_get I.hok ha
  obtain ⟨mB, J', _⟩ := ins_get I.hok hb'
  obtain ⟨od, J, _⟩ := J.look
  obtain ⟨od', J', _⟩ := J'.look
  obtain ⟨m, hF⟩ := I.fr
  show wpAny (model X.prog X.w) X.A (richCompare .Eq (.ref a) (.ref b)) (EP X pins σ Q) X.xe s
  refine PySem.W.cmp_K (op := .Eq) (tb := .ref C) hr.units0 hF I.ok.mod.kin J J'.type (by simp [PySem.W.notFirst]) hs hf ?_
  have r2 : Vals [V.ref a, V.ref b] [Value.ref a, Value.ref b] := .cons rfl (.cons rfl .nil)
  have hB := hb s [.ref a, .ref b] I.kIn (by simp)
  refine wpAny_call (codeAny_mono (F.run X.A X.stack s H ⟨[.ref a, .ref b], []⟩ [.ref a, .ref b] [.ref a, .ref b] _ E0 hr I.env0 (by simpa using hB) r2 hsp) fun r s' hq => ?_)
  cases r with
  | error er => exact False.elim hq
  | ok fl =>
    cases fl with
    | ret z =>
      obtain ⟨vz, H', I', rz, ⟨cz, ez⟩, q⟩ := I.after hq
      subst ez
      cases rz
      exact ⟨.bl cz, H', I', rfl, q⟩
    | next => exact False.elim hq
    | brk => exact False.elim hq
    | cont => exact False.elim hq
end
end K07
end

section -- R2
set_option Elab.async false
set_option linter.all false
set_option maxRecDepth 100000
set_option maxHeartbeats 4000000
namespace K07
open PySem PySem.Spec PyProof.Rows L2
section
variable {X : Cx} {k : Nat}
def rGetA (K : PySem.W.Frag) : V → V → Hp → VK → Prop := fun x y H Q => ∃ p xs i v, x = .ref p ∧ y = .int i ∧ 0 ≤ i ∧ SqL K H p xs ∧ xs[i.toNat]? = some v ∧ Q v H
theorem get_listA : PGet X (rGetA X.K) := by
  intro pins s σ H o i ov iv Q I ro ri h
  obtain ⟨p, xs, n, v, rfl, rfl, h0, hq, he, q⟩ := h
  cases ro
  obtain ⟨t, rfl⟩ := ri
  obtain ⟨its, r, pl, hz⟩ := I.list hq
  obtain ⟨w, ew, rw'⟩ := r.get he
  have hl := r.length
  have hlt := (List.getElem?_eq_some_iff.mp he).1
  have hn := line63
  exact wpAny_getItem_list pl.isList h0 (by omega) (by simpa using ew) ⟨v, H, I, rw', q⟩
def rSumA (K : PySem.W.Frag) : List V → Hp → VK → Prop := fun vs H Q => ∃ (a : Addr) (ns : List Int), vs = [V.ref a] ∧ SqT K H a (ns.map V.int) ∧ Q (.int ns.sum) H
theorem cr_sumA (hc : X.calm = true := by rfl) : CallR X (.builtin "sum") (rSumA X.K) := by
  intro pins s σ H vs us Q I r h
  obtain ⟨a, ns, rfl, hs, q⟩ := h
  obtain ⟨its, rv, hl, hz⟩ := I.tuple hs
  rw [Vals.ref1 r]
  obtain ⟨xs, hx⟩ := rv.ints.allInts.items
  have hn : numsOf its.toArray.toList = ns := by rw [show its.toArray.toList = its from rfl, rv.ints.numsOf]
  have hl' : s.heap.IsTuple a its.toArray := hl
  rw [hx] at hl' hn
  rw [nums_intItems] at hn
  refine PySem.W.ktm_sumG (I.ok.hd hc) hl' fun h' tk t' hk => ?_
  rw [preSum_eq, List.take_of_length_le (by simp), hn]
  exact ⟨.int _, H, I.kept hk, ⟨_, rfl⟩, q⟩
/-- repr of data -/
def rReprD (K : PySem.W.Frag) : List V → Hp → VK → Prop := fun xs H Q => ∃ (a : Addr) (d : PyData), xs = [.ref a] ∧ Dp K H (.ref a) d ∧ d.showable = true ∧ d.hasDict = false ∧ d.depth ≤ 16 ∧ d.shown.length ≤ sizeLine ∧ Q (.str d.shown) H
theorem call_reprD (hg : X.A.guards = some []) (hr : Room k X.A) : CallR X (.builtin "repr") (rReprD X.K) := by
  intro pins s σ H vs us Q I r h
  obtain ⟨a, d, rfl, hd, h1, h2, h3, h4, q⟩ := h
  rw [Vals.ref1 r]
  obtain ⟨as, rd⟩ := Dp.reads I d _ (Value.ref a) hd rfl
  refine repr_of_reads' rd h1 (fun z => by rw [h2] at z; cases z) hg (by have := hr.un; omega) (fun _ _ e => e) (fun h' u tk hk => ?_) h4
  exact ⟨.str d.shown, H, I.kept hk, ⟨_, rfl⟩, q⟩
end
end K07
end

section -- R3
set_option Elab.async false
set_option linter.all false
set_option maxRecDepth 100000
set_option maxHeartbeats 4000000
namespace K07
open PySem PySem.Spec PyProof.Rows L2
section
variable {X : Cx} {k : Nat}
/-- enumerate over a text -/
def Ies (z : Str) : It := ⟨fun i _ => i < z.cps.size, fun i H v H' => ∃ T c, v = .ref T ∧ H T = none ∧ H' = upd H T (.tup [.int (i : Nat), .str ⟨#[c]⟩]) ∧ z.cps[i]? = some c, fun i _ => i = z.cps.size⟩
def Iet (a : Addr) (xs : List V) (K : PySem.W.Frag) : It := ⟨fun i H => SqT K H a xs ∧ i < xs.length, fun i H v H' => ∃ T x, v = .ref T ∧ H T = none ∧ H' = upd H T (.tup [.int (i : Nat), x]) ∧ xs[i]? = some x, fun i H => SqT K H a xs ∧ i = xs.length⟩
def TnE (e it : Addr) (st : Nat → Heap → Prop) (i : Nat) (h : Heap) : Prop := (∃ old, IsEnum h e it ((i : Nat) : Int) old) ∧ st i h ∧ e ≠ it
/-- one more pair out of an enumeration: the common part -/
theorem enum_item {X : Cx} {pins : List (Addr × Obj)} {s : Shared} {σ : L2.St} {H : Hp} {E : Value → Shared → Prop} {e it : Addr} {fp : List Addr} {n i : Nat} {Pu : Nat → Value → Prop} {st St : Nat → Heap → Prop} {elts : List Expr} {kk : Nat} {tpos : Pos} {J : It}
    (I : Inv X pins σ H s) (D : Draws X.prog X.w X.A.in1 it fp n Pu St) (hf : ∀ b ∈ [e, it], FpOk X pins H b) (ht : TnE e it st i s.heap) (hS : St i s.heap) (hi : i < n) (hef : e ∉ fp)
    (back : ∀ h, St (i + 1) h → st (i + 1) h) (fr : ∀ h h', st (i + 1) h → (∀ o, h.get? it = some o → h'.get? it = some o) → st (i + 1) h')
    (rel : ∀ u, Pu i u → ∃ x, RelV x u ∧ ∀ T, H T = none → J.yld i H (.ref T) (upd H T (.tup [.int (i : Nat), x]))) :
    wpAny (model X.prog X.w) X.A (pyNext (.ref e)) (fun r s1 => ∃ u, r = some u ∧
      wpAny (model X.prog X.w) X.A (letOwnedTupleGo (.Tuple elts kk tpos) (.ref e) u) (fun _ s2 => ∃ x H', Inv X pins σ H' s2 ∧ RelV x u ∧ J.yld i H x H' ∧ TnE e it st (i + 1) s2.heap ∧ ∀ b ∈ [e, it], H' b = none) E s1) E s := by
  obtain ⟨⟨old, he⟩, _, hne⟩ := ht
  have hel : e < s.heap.objs.size := Heap.lt_size he
  have hil : it < s.heap.objs.size := by
    obtain ⟨o, q⟩ := D.live _ _ hS
    exact Heap.lt_size q
  refine wpAny_pyNext_enum_itemD D he hS hi hne hef fun u h' tk hP ho hS' hT hsz hk => ?_
  refine ⟨_, rfl, wpAny_letOwnedTupleGo_enum (s := { s with heap := h', toks := tk + 1 }) ho fun h2 he' sb => ?_⟩
  obtain ⟨x, rx, hy⟩ := rel u hP
  have hT2 : h2.get? s.heap.objs.size = some { cls := .type "tuple", data := .seq #[.int i tk, u] } := (sb.2 _ (Nat.ne_of_gt hel)).trans hT
  have new : ObjOk X.prog X.w (upd H s.heap.objs.size (.tup [.int (i : Nat), x])) h2 s.heap.objs.size (.tup [.int (i : Nat), x]) :=
    ⟨by show 2 ≤ sizeLine; decide, [.int i tk, u], .cons ⟨_, rfl⟩ (.cons rx .nil), ⟨_, hT2, rfl, _, rfl⟩⟩
  have I1 : Inv X pins σ (upd H s.heap.objs.size (.tup [.int (i : Nat), x])) { s with heap := h2, toks := tk + 1 } :=
    I.turnedNew (ch := [e, it]) (fun b ob hb q => (sb.2 b (fun z => hb (by simp [z]))).trans (hk b ob (fun z => hb (by simp [z])) (fun z => hb (by simp [z])) q)) hf (Nat.le_refl _) new
  refine ⟨.ref s.heap.objs.size, _, I1, rfl, hy _ (I.hok.fresh (Nat.le_refl _)), ⟨⟨u, ?_⟩, fr _ _ (back _ hS') fun o q => (sb.2 it (Ne.symm hne)).trans q, hne⟩, fun b hb => ?_⟩
  · have e1 : ((i + 1 : Nat) : Int) = (i : Int) + 1 := by omega
    rw [e1]
    exact he'
  · have hb' : b < s.heap.objs.size := by
      have z : b = e ∨ b = it := by simpa using hb
      rcases z with z | z
      · rw [z]; exact hel
      · rw [z]; exact hil
    rw [upd_ne (Nat.ne_of_lt hb')]
    exact (hf b hb).1
theorem turn_enumS {P : Program} {w : World} {K : PySem.W.Frag} {elts : List Expr} {kk : Nat} {tpos : Pos} (z : Str) (t : Tok) (e it : Addr) :
    Turn P w K (.Tuple elts kk tpos) (Ies z) [e, it] e (TnE e it fun i h => h.IsStrIter it (strIterType z) z t i) where
  mem := by simp
  obj := fun i h st b hb => by
    obtain ⟨⟨old, he⟩, ⟨o, ho, hc, hd⟩, _⟩ := st
    have e' : b = e ∨ b = it := by simpa using hb
    rcases e' with q | q
    · rw [q]; exact ⟨_, he, fun v q => nomatch q⟩
    · rw [q]; exact ⟨o, ho, fun v q => by rw [hd] at q; cases q⟩
  keep := fun i h h' st k => by
    obtain ⟨⟨old, he⟩, ⟨o, ho, r⟩, hne⟩ := st
    exact ⟨⟨old, k e (by simp) _ he⟩, ⟨o, k it (by simp) o ho, r⟩, hne⟩
  item := by
    intro X hP hw hK hc i pins s σ H E I hf st hg
    subst hP hw hK
    refine enum_item (fp := [it]) (St := fun i h => h.IsStrIter it (strIterType z) z t i) I (Draws.text (prog := X.prog) (w := X.w) (A := X.A.in1) (I.ok.hd hc) it z t) hf st st.2.1 hg (by simpa using st.2.2) (fun h q => q) (fun h h' q k => let ⟨o, ho, r⟩ := q; ⟨o, k o ho, r⟩) fun u hu => ?_
    obtain ⟨c, t', hx, rfl⟩ := hu
    exact ⟨.str ⟨#[c]⟩, ⟨t', rfl⟩, fun T hT => ⟨T, c, rfl, hT, rfl, hx⟩⟩
  done := by
    intro X hP hw hK hc i pins s σ H E I hf st hg
    subst hP hw hK
    obtain ⟨⟨old, he⟩, hit, hne⟩ := st
    obtain ⟨f0, f1, f2, f3, f4, f5⟩ := hf it (by simp)
    have hg' : i = z.cps.size := hg
    subst hg'
    exact wpAny_pyNext_enum_endD (Draws.text (prog := X.prog) (w := X.w) (A := X.A.in1) (I.ok.hd hc) it z t) he hit fun h' eb => ⟨rfl, I.turned (t' := s.toks) (fun b o hb q => eb b o hb q) f0 f1 f3 f4 f5⟩
  self := fun A i s Q E st h => let ⟨⟨_, he⟩, _⟩ := st; wpAny_pyIter_enum he h
theorem turn_enumT {P : Program} {w : World} {K : PySem.W.Frag} {elts : List Expr} {kk : Nat} {tpos : Pos} (a : Addr) (xs : List V) (e it : Addr) :
    Turn P w K (.Tuple elts kk tpos) (Iet a xs K) [e, it] e (TnE e it fun i h => h.IsTupleIter it a i) where
  mem := by simp
  obj := fun i h st b hb => by
    obtain ⟨⟨old, he⟩, ⟨o, ho, hc, hd⟩, _⟩ := st
    have e' : b = e ∨ b = it := by simpa using hb
    rcases e' with q | q
    · rw [q]; exact ⟨_, he, fun v q => nomatch q⟩
    · rw [q]; exact ⟨o, ho, fun v q => by rw [hd] at q; cases q⟩
  keep := fun i h h' st k => by
    obtain ⟨⟨old, he⟩, ⟨o, ho, r⟩, hne⟩ := st
    exact ⟨⟨old, k e (by simp) _ he⟩, ⟨o, k it (by simp) o ho, r⟩, hne⟩
  item := by
    intro X hP hw hK hc i pins s σ H E I hf st hg
    subst hP hw hK
    obtain ⟨hq, hi⟩ := hg
    obtain ⟨its, rv, pl, hz⟩ := I.tuple hq
    have ha : a ≠ it := fun q => by
      obtain ⟨o, ho, hc, n, hd⟩ := pl
      obtain ⟨o2, ho2, hc2, hd2⟩ := st.2.1
      rw [q, ho2] at ho
      cases ho
      rw [hd2] at hd
      cases hd
    have hea : e ≠ a := fun q => by
      obtain ⟨⟨old, he⟩, _⟩ := st
      obtain ⟨o, ho, hc, n, hd⟩ := pl
      rw [← q, he] at ho
      cases ho
      cases hd
    refine enum_item (n := its.toArray.size) (fp := [it, a]) (St := fun i h => h.IsTupleIter it a i ∧ h.IsTuple a its.toArray) I (Draws.tuple (prog := X.prog) (w := X.w) (A := X.A.in1) (I.ok.hd hc) it a ha its.toArray) hf st ⟨st.2.1, pl⟩ (by rw [List.size_toArray, ← rv.length]; exact hi) (by simpa using ⟨st.2.2, hea⟩) (fun h q => q.1) (fun h h' q k => q.at fun o e => k o e) fun u hu => ?_
    have hx : xs[i]? = some xs[i] := by simp [hi]
    obtain ⟨u2, e2, r2⟩ := rv.get hx
    have e3 : its[i]? = some u := by simpa using hu
    rw [e2] at e3
    cases e3
    exact ⟨xs[i], r2, fun T hT => ⟨T, xs[i], rfl, hT, rfl, hx⟩⟩
  done := by
    intro X hP hw hK hc i pins s σ H E I hf st hg
    subst hP hw hK
    obtain ⟨hq, hi⟩ := hg
    obtain ⟨its, rv, pl, hz⟩ := I.tuple hq
    have ha : a ≠ it := fun q => by
      obtain ⟨o, ho, hc, n, hd⟩ := pl
      obtain ⟨o2, ho2, hc2, hd2⟩ := st.2.1
      rw [q, ho2] at ho
      cases ho
      rw [hd2] at hd
      cases hd
    obtain ⟨⟨old, he⟩, hit, hne⟩ := st
    obtain ⟨f0, f1, f2, f3, f4, f5⟩ := hf it (by simp)
    have hn : its.toArray.size = i := by rw [List.size_toArray, ← rv.length, hi]
    exact wpAny_pyNext_enum_endD (Draws.tuple (prog := X.prog) (w := X.w) (A := X.A.in1) (I.ok.hd hc) it a ha its.toArray) he ⟨by rw [hn]; exact hit, pl⟩ fun h' eb => ⟨rfl, I.turned (t' := s.toks) (fun b o hb q => eb b o hb q) f0 f1 f3 f4 f5⟩
  self := fun A i s Q E st h => let ⟨⟨_, he⟩, _⟩ := st; wpAny_pyIter_enum he h
def iEnumS (ta : TA) : TI := fun σ H R => ta σ H fun vs H1 => ∃ z : Str, vs = [.str z] ∧ R (Ies z) H1
theorem fp_two {pins : List (Addr × Obj)} {s s1 : Shared} {σ : L2.St} {H : Hp} (I1 : Inv X pins σ H s1) : ∀ b ∈ [s1.heap.objs.size + 1, s1.heap.objs.size], FpOk X pins H b := fun b hb => by
  have z : b = s1.heap.objs.size + 1 ∨ b = s1.heap.objs.size := by simpa using hb
  have hle : s1.heap.objs.size ≤ b := by
    rcases z with z | z
    · rw [z]; exact Nat.le_add_right _ _
    · rw [z]; exact Nat.le_refl _
  exact I1.fpOk hle (I1.hok.fresh hle)
theorem pi_enumS {e : Expr} {t : TA} {p pos tpos : Pos} {elts : List Expr} {kk : Nat} (hg : Gl X "enumerate") (hm : X.mg "enumerate" = none) (ha : PA X [e] t) (hs : starEach [e] X.env = [(false, eval e X.env)] := by rfl) :
    PI X (.Tuple elts kk tpos) (.Call (.Name "enumerate" p) [e] [] pos) (iEnumS t) := by
  refine ⟨fun pins s σ H R I h => ?_⟩
  refine Call_ (ld_blt I hg hm boot_enumerate (PyProof.Rows.callWith_type1 (thn (ha.run pos pins s σ H _ I h) fun us s1 ⟨vs, H1, I1, r1, z, ex, q⟩ => ?_) hs rfl))
  subst ex
  obtain ⟨u, rfl, tk, rfl⟩ := vals1 r1
  refine call_enumerate_str fun h' he hit hsz hk => wpAny_pyIter_enum he ?_
  have I2 : Inv X pins σ H1 { s1 with heap := h' } := I1.kept (t' := s1.toks) hk
  exact ⟨s1.heap.objs.size + 1, [s1.heap.objs.size + 1, s1.heap.objs.size], _, _, H1, rfl, I2, turn_enumS z tk (s1.heap.objs.size + 1) s1.heap.objs.size, ⟨⟨.none, he⟩, hit, Nat.succ_ne_self _⟩, fp_two (s := s) I1, q⟩
def iEnumT (K : PySem.W.Frag) (ta : TA) : TI := fun σ H R => ta σ H fun vs H1 => ∃ a xs, vs = [.ref a] ∧ SqT K H1 a xs ∧ R (Iet a xs K) H1
set_option maxHeartbeats 1000000 in
theorem meets_enumT (a : Addr) (items : Array Value) : Meets (Builtin.«enumerate.__new__» ⟨[.type "enumerate", .ref a], []⟩) (fun _ R s => s.heap.IsTuple a items ∧
    R (.ok (.ret (.ref (s.heap.push { cls := .type "tuple_iterator", data := .fields #[.ref a, .int 0 0] }).objs.size)))
      { s with heap := (s.heap.push { cls := .type "tuple_iterator", data := .fields #[.ref a, .int 0 0] }).push { cls := .type "enumerate", data := .fields #[.none, .bool false, .ref s.heap.objs.size, rawInt 0, .none, .none] } }) :=
  .of_wp fun prog w A R s h => by
    obtain ⟨hp, g, d, tk, os⟩ := s
    obtain ⟨h1, h⟩ := h
    have hsub := sub_enumerate
    have q1 : ∀ {A' : Around} {E : Value → Shared → Prop} {Q : Value → Shared → Prop}, Q (.ref hp.objs.size) ⟨hp.push { cls := .type "tuple_iterator", data := .fields #[.ref a, .int 0 0] }, g, d, tk, os⟩ → wpAny (model prog w) A' (pyIter (.ref a)) Q E ⟨hp, g, d, tk, os⟩ :=
      fun q => wpAny_pyIter_tuple h1 q
    wp_walk using q1
    refine wpAny_stack_any fun st => wpAny_pure ?_
    split
    · rename_i c _ _ _ _ _
      cases (c == Value.type "enumerate")
      · wp_walk using q1
        exact ⟨_, rfl, h⟩
      · wp_walk using q1
        exact ⟨_, rfl, h⟩
    · wp_walk using q1
      exact ⟨_, rfl, h⟩
theorem call_enumT {prog : Program} {w : World} {A : Around} {E : Value → Shared → Prop} {s : Shared} {a : Addr} {items : Array Value} {Q : Value → Shared → Prop} (hT : s.heap.IsTuple a items)
    (h : ∀ h', IsEnum h' (s.heap.objs.size + 1) s.heap.objs.size 0 .none → h'.IsTupleIter s.heap.objs.size a 0 → (∀ b o, s.heap.get? b = some o → h'.get? b = some o) → Q (.ref (s.heap.objs.size + 1)) { s with heap := h' }) :
    wpAny (model prog w) A (call (.type "enumerate") [.ref a]) Q E s := by
  refine callType_new F.called_enumerate (by decide) (F.typeCall_enumerate_1 _) (F.newCall_enumerate_1 _) (fun obj => F.args_object_init_2 obj _) F.entry_enumerate_new (meets_enumT a items) ⟨hT, ?_⟩
  have hz : (s.heap.push { cls := .type "tuple_iterator", data := .fields #[.ref a, .int 0 0] }).objs.size = s.heap.objs.size + 1 := Heap.size_push ..
  show _ ∧ _
  rw [hz]
  have he : IsEnum ((s.heap.push { cls := .type "tuple_iterator", data := .fields #[.ref a, .int 0 0] }).push
      { cls := .type "enumerate", data := .fields #[.none, .bool false, .ref s.heap.objs.size, rawInt 0, .none, .none] }) (s.heap.objs.size + 1) s.heap.objs.size 0 .none := by
    have q := Heap.get?_push_size (s.heap.push { cls := .type "tuple_iterator", data := .fields #[.ref a, .int 0 0] })
      (o := { cls := .type "enumerate", data := .fields #[.none, .bool false, .ref s.heap.objs.size, rawInt 0, .none, .none] }) rfl
    rw [hz] at q
    exact q
  exact ⟨⟨_, he, rfl⟩, h _ he ⟨_, Heap.get?_push_of_some _ (Heap.get?_push_size _ rfl), rfl, rfl⟩ fun b o y => Heap.get?_push_of_some _ (Heap.get?_push_of_some _ y)⟩
theorem pi_enumT {e : Expr} {t : TA} {p pos tpos : Pos} {elts : List Expr} {kk : Nat} (hg : Gl X "enumerate") (hm : X.mg "enumerate" = none) (ha : PA X [e] t) (hs : starEach [e] X.env = [(false, eval e X.env)] := by rfl) :
    PI X (.Tuple elts kk tpos) (.Call (.Name "enumerate" p) [e] [] pos) (iEnumT X.K t) := by
  refine ⟨fun pins s σ H R I h => ?_⟩
  refine Call_ (ld_blt I hg hm boot_enumerate (PyProof.Rows.callWith_type1 (thn (ha.run pos pins s σ H _ I h) fun us s1 ⟨vs, H1, I1, r1, a, xs, ex, hq, q⟩ => ?_) hs rfl))
  subst ex
  rw [Vals.ref1 r1]
  obtain ⟨its, rv, pl, hz⟩ := I1.tuple hq
  refine call_enumT pl fun h' he hit hk => wpAny_pyIter_enum he ?_
  have I2 : Inv X pins σ H1 { s1 with heap := h' } := I1.kept (t' := s1.toks) hk
  exact ⟨s1.heap.objs.size + 1, [s1.heap.objs.size + 1, s1.heap.objs.size], _, _, H1, rfl, I2, turn_enumT a xs (s1.heap.objs.size + 1) s1.heap.objs.size, ⟨⟨.none, he⟩, hit, Nat.succ_ne_self _⟩, fp_two (s := s) I1, q⟩
end
end K07
end

section -- R4
set_option Elab.async false
set_option linter.all false
set_option maxRecDepth 100000
set_option maxHeartbeats 4000000
namespace K07
open PySem PySem.Spec PyProof.Rows L2
section
variable {X : Cx} {k : Nat}
/-- a tuple whose object is known: it has no dict of its own -/
def Tu (H : Hp) (a : Addr) (xs : List V) : Prop := ∃ o : Obj, o.dict = none ∧ H a = some (.frz o (.tup xs))
theorem Tu.sq {K : PySem.W.Frag} {H : Hp} {a : Addr} {xs : List V} (h : Tu H a xs) : SqT K H a xs := let ⟨o, _, e⟩ := h; .inl (.inr ⟨o, e⟩)
/-- tuple(list) -/
def rTupF (K : PySem.W.Frag) : List V → Hp → VK → Prop := fun xs H Q => ∃ p ys, xs = [.ref p] ∧ SqL K H p ys ∧ ∀ (l : Addr) (o : Obj), o.dict = none → H l = none → Q (.ref l) (upd H l (.frz o (.tup ys)))
theorem call_tupF : CallR X (.type "tuple") (rTupF X.K) := by
  intro pins s σ H xs us Q I r h
  obtain ⟨p, ys, rfl, hq, q⟩ := h
  rw [Vals.ref1 r]
  obtain ⟨its, r', pl, hz⟩ := I.list hq
  have hlen := r'.length
  refine call_tuple_list pl.isList (fun h' kp => ?_) (by simp only [List.size_toArray] <;> omega)
  have I1 : Inv X pins σ H { s with heap := h' } := I.kept (t' := s.toks) kp
  have new : ObjOk X.prog X.w (upd H h'.objs.size (.frz { cls := .type "tuple", data := .seq its.toArray } (.tup ys))) (h'.push { cls := .type "tuple", data := .seq its.toArray }) h'.objs.size (.frz { cls := .type "tuple", data := .seq its.toArray } (.tup ys)) :=
    ⟨Heap.get?_push_size _ rfl, hz, its, r', IsTup.new _ _⟩
  exact ⟨.ref h'.objs.size, _, I1.laid (t' := s.toks) (fun b o e => Heap.get?_push_of_some _ e) (Nat.le_refl _) new, rfl, q _ _ rfl (I1.hok.fresh (Nat.le_refl _))⟩
def rSlF (K : PySem.W.Frag) : V → Option Int → Option Int → Hp → VK → Prop := fun x lo hi H Q => ∃ a xs, x = .ref a ∧ SqT K H a xs ∧
  (HT.sIx xs.length 0 lo = 0 ∧ HT.sIx xs.length xs.length hi = xs.length → Q (.ref a) H) ∧
  (¬ (HT.sIx xs.length 0 lo = 0 ∧ HT.sIx xs.length xs.length hi = xs.length) → ∀ (p : Addr) (o : Obj), o.dict = none → H p = none → Q (.ref p) (upd H p (.frz o (.tup (cutV xs lo hi)))))
theorem sl_tupF : SlR X (rSlF X.K) := by
  intro pins s σ H x v vl vu lo hi sl Q I rx hs pl pu h
  obtain ⟨a, xs, rfl, hx, q1, q2⟩ := h
  cases rx
  obtain ⟨its, r, ht, hz⟩ := I.tuple hx
  have hlen : its.toArray.size = xs.length := by rw [List.size_toArray]; exact r.length.symm
  refine ⟨"tuple", _, PyProof.Rows.slot_tuple_getitem.lookup, ht.typeIs, ?_⟩
  by_cases hw : HT.sIx xs.length 0 lo = 0 ∧ HT.sIx xs.length xs.length hi = xs.length
  · exact getItem_tuple_whole ht hs pl pu (by rw [hlen]; exact hw) ⟨.ref a, H, I, rfl, q1 hw⟩
  · refine HT.getItem_tuple_cut ht hs pl pu (by rw [hlen]; exact hw) ?_ (by rw [hlen]; exact hz)
    rw [hlen]
    have new : ObjOk X.prog X.w (upd H s.heap.objs.size (.frz { cls := .type "tuple", data := .seq ((its.drop (HT.sIx xs.length 0 lo)).take (HT.sIx xs.length xs.length hi - HT.sIx xs.length 0 lo)).toArray } (.tup (cutV xs lo hi))))
        (s.heap.push { cls := .type "tuple", data := .seq ((its.drop (HT.sIx xs.length 0 lo)).take (HT.sIx xs.length xs.length hi - HT.sIx xs.length 0 lo)).toArray }) s.heap.objs.size
        (.frz { cls := .type "tuple", data := .seq ((its.drop (HT.sIx xs.length 0 lo)).take (HT.sIx xs.length xs.length hi - HT.sIx xs.length 0 lo)).toArray } (.tup (cutV xs lo hi))) :=
      ⟨Heap.get?_push_size _ rfl, Nat.le_trans (cutV_length xs lo hi) hz, _, (r.drop (HT.sIx xs.length 0 lo)).take (HT.sIx xs.length xs.length hi - HT.sIx xs.length 0 lo), IsTup.new _ _⟩
    exact ⟨.ref s.heap.objs.size, _, I.laid (t' := s.toks) (fun b ob q => Heap.get?_push_of_some _ q) (Nat.le_refl _) new, rfl, q2 hw _ _ rfl (I.hok.fresh (Nat.le_refl _))⟩
def signs (z : Str) : List Str := z.cps.toList.map fun c => ⟨#[c]⟩
theorem strsAre_signs {acc : List Value} {z : Str} (hl : acc.length = z.cps.size) (h : ∀ (j : Nat) (v : Value), acc[j]? = some v → ∃ c t, z.cps[j]? = some c ∧ v = .str ⟨#[c]⟩ t) : StrsAre acc (signs z) := by
  refine strs_at (by rw [hl]; simp [signs]) fun j v e => ?_
  obtain ⟨c, t, h1, h2⟩ := h j v e
  exact ⟨⟨#[c]⟩, t, by simp [signs, h1], h2⟩
def rSortedSt : List V → Hp → VK → Prop := fun xs H Q => ∃ z : Str, xs = [.str z] ∧ z.cps.size < 64 ∧ ∀ ys p, ys.Perm (signs z) → sortedS ys = true → H p = none → Q (.ref p) (upd H p (.lst (ys.map V.str)))
theorem call_sortedSt (hcal : X.calm = true) : CallR X (.builtin "sorted") rSortedSt := by
  intro pins s σ H xs us Q I r q
  obtain ⟨z, rfl, h64, q⟩ := q
  obtain ⟨u, rfl, tz, rfl⟩ := vals1 r
  refine Calls.call_function_entry PyProof.Rows.kind_sorted PyProof.Rows.plain_sorted PyProof.Rows.entry_sorted (PyProof.Rows.args_sorted1 _) ?_
  unfold Builtin.«sorted»
  refine wpAny_bind (m := checkCount "sorted" 1 1 _) (wpAny_pure ?_)
  refine wpAny_bind (wpAny_collect_str (A := X.A.in1) (I.ok.hd hcal) z tz (fun s' acc hk hg hd ho hacc => ?_) (by rw [sizeLine_eq]; omega))
  obtain ⟨h', g', d', tk, os'⟩ := s'
  simp only at hk hg hd ho
  subst hg hd ho
  have hal : acc.toList.length = z.cps.size := by rw [Array.length_toList, hacc.1]
  have hS : StrsAre acc.toList (signs z) := strsAre_signs hal fun j v e => by
    have w := hacc.2 j v (by rw [← Array.getElem?_toList]; exact e)
    obtain ⟨c, t, h1, h2⟩ := w
    exact ⟨c, t, h1, h2⟩
  have I1 : Inv X pins σ H { s with heap := h', toks := tk } := I.kept hk
  refine wpAny_bind (wpAny_newList ?_ (by rw [hal, sizeLine_eq]; omega))
  have hoL : (h'.push (seqObj "list" acc.toList.toArray 0)).get? h'.objs.size = some (seqObj "list" acc.toList.toArray 0) := Heap.get?_push_size _ rfl
  show wpAny _ _ _ _ _ { s with heap := h'.push (seqObj "list" acc.toList.toArray 0), toks := tk }
  refine wpAny_bind (wpAny_holding (wpAny_call_entry PyProof.Rows.slot_list_sort ⟨_, hoL, rfl⟩ PyProof.Rows.entry_list_sort
    (list_sort_treeK strKind_oneLt (s := { s with heap := h'.push (seqObj "list" acc.toList.toArray 0), toks := tk }) hoL hS.keysOf (fun v₁ v₂ rest e => keyKind_strs (by rw [← e]; exact hS)) (by rw [hal]; exact h64) fun st' hp hs => ⟨_, rfl, ?_⟩)
    (PyProof.Rows.args_list_sort _)))
  obtain ⟨ys, g1, g2, g3⟩ := sorted_out_str hS hp hs
  obtain ⟨e', he'⟩ := PyProof.Rows.sortedHeap_at (vs := acc.toList) (out := (arrOf st').map (·.2)) hoL
  have hlen : (ys.map V.str).length ≤ sizeLine := by
    rw [List.length_map, g2.length_eq]
    simp only [signs, List.length_map, Array.length_toList, sizeLine_eq]
    omega
  have new : ObjOk X.prog X.w (upd H h'.objs.size (.lst (ys.map V.str))) _ h'.objs.size (.lst (ys.map V.str)) := ⟨hlen, ((arrOf st').map (·.2)).toList, e', vals_of_strs g1, by rw [Array.toArray_toList]; exact he'⟩
  refine wpAny_pure ⟨_, rfl, .ref h'.objs.size, _, I1.laid (t' := tk) (fun b u e => ?_) (Nat.le_refl _) new, rfl, q ys _ g2 g3 (I1.hok.fresh (Nat.le_refl _))⟩
  have hb : b < h'.objs.size := Heap.lt_size e
  rw [PyProof.Rows.sortedHeap_old (Nat.ne_of_lt hb) (by rw [size_push']; exact Nat.lt_succ_of_lt hb)]
  exact Heap.get?_push_of_some _ e
/-- sorted(xs), xs pairs told by data -/
def encN (q : Addr × Str × Int) : PyData := .tuple [.str q.2.1, .int q.2.2]
def encC (q : Addr × Int × Int) : PyData := .tuple [.int q.2.1, .int q.2.2]
def rSortedG {α : Type} (K : PySem.W.Frag) (enc : Addr × α → PyData) (e1 e2 : α → V) : List V → Hp → VK → Prop := fun xs H Q => ∃ (a : Addr) (ps : List (Addr × α)), xs = [.ref a] ∧ SqL K H a (ps.map fun q => V.ref q.1) ∧
  (∀ q ∈ ps, SqT K H q.1 [e1 q.2, e2 q.2]) ∧ ps.length < 64 ∧ ∀ l, H l = none → Q (.ref l) (upd H l (.lst ((ps.mergeSort (PySem.W.dataLe false enc)).map fun q => V.ref q.1)))
abbrev rSortedN (K : PySem.W.Frag) : List V → Hp → VK → Prop := rSortedG K encN (fun p => .str p.1) (fun p => .int p.2)
abbrev rSortedC (K : PySem.W.Frag) : List V → Hp → VK → Prop := rSortedG K encC (fun p => .int p.1) (fun p => .int p.2)
theorem sortedG {α : Type} {enc : Addr × α → PyData} {e1 e2 : α → V} (hr : Room k X.A) (hal : ∀ b b', PySem.W.alike (enc b) (enc b') = true) (ht : ∀ b, ∃ x r, enc b = .tuple (x :: r)) (hdep : ∀ b, (enc b).depth ≤ 4)
    (hread : ∀ {pins : List (Addr × Obj)} {s : Shared} {σ : L2.St} {H : Hp} (I : Inv X pins σ H s) (q : Addr × α), SqT X.K H q.1 [e1 q.2, e2 q.2] → ∃ as, Reads s.heap (.ref q.1) (enc q) as) :
    CallR X (.builtin "sorted") (rSortedG X.K enc e1 e2) := by
  intro pins s σ H xs us Q I r h
  obtain ⟨a, ps, rfl, hs, hp, h64, q⟩ := h
  rw [Vals.ref1 r]
  obtain ⟨its, rv, hl, hz⟩ := I.list hs
  have hlen0 := rv.length
  rw [List.length_map] at hlen0
  have e : ∀ (ps : List (Addr × α)) (its : List Value), Vals (ps.map fun q => V.ref q.1) its → PySem.W.EachIs (fun v (b : Addr × α) => v = Value.ref b.1) its ps := by
    intro ps
    induction ps with
    | nil => intro its rv; cases rv; exact .nil
    | cons p ps ih =>
      intro its rv
      cases rv with
      | cons r1 r2 => exact .cons r1 (ih _ r2)
  have er : ∀ (ps' : List (Addr × α)) (its : List Value), (∀ q ∈ ps', SqT X.K H q.1 [e1 q.2, e2 q.2]) → Vals (ps'.map fun q => V.ref q.1) its → PySem.W.EachIs (fun v b => ∃ as, Reads s.heap v (enc b) as) its ps' := by
    intro ps'
    induction ps' with
    | nil => intro its _ rv; cases rv; exact .nil
    | cons p ps' ih =>
      intro its hq rv
      cases rv with
      | cons r1 r2 =>
        cases r1
        exact .cons (hread I p (hq p (List.mem_cons_self ..))) (ih _ (fun z hz => hq z (List.mem_cons_of_mem _ hz)) r2)
  refine PySem.W.sorted_data hl.isList (e ps its rv) (er ps its hp rv) (PySem.W.AllAlike.of hal) (PySem.W.Sortable.tuples ht) (by rw [sizeLine_eq]; omega) (fun b _ => by have := hr.un; have := hdep b; omega) fun out ho hR => ?_
  obtain ⟨ep, he'⟩ := PyProof.Rows.sortedAll_at s.heap its (List.toArray out)
  have back : ∀ (qs : List (Addr × α)) (out : List Value), PySem.W.EachIs (fun v (b : Addr × α) => v = Value.ref b.1) out qs → Vals (qs.map fun q => V.ref q.1) out := by
    intro qs
    induction qs with
    | nil => intro out h; cases h; exact .nil
    | cons p qs ih =>
      intro out h
      cases h with
      | cons r1 r2 => exact .cons r1 (ih _ r2)
  have rv2 := back _ _ hR
  have hl2 : ((ps.mergeSort (PySem.W.dataLe false enc)).map fun q => V.ref q.1).length ≤ sizeLine := by rw [List.length_map, List.length_mergeSort, sizeLine_eq]; omega
  have new : ObjOk X.prog X.w (upd H (s.heap.objs.size + 1) (.lst ((ps.mergeSort (PySem.W.dataLe false enc)).map fun q => V.ref q.1))) _ (s.heap.objs.size + 1) (.lst ((ps.mergeSort (PySem.W.dataLe false enc)).map fun q => V.ref q.1)) := ⟨hl2, out, ep, rv2, he'⟩
  exact ⟨.ref _, _, I.laid (t' := s.toks) (fun _ _ => PyProof.Rows.sortedAll_old) (Nat.le_succ _) new, rfl, q _ (I.hok.fresh (Nat.le_succ _))⟩
end
end K07
end

section -- R5
set_option Elab.async false
set_option linter.all false
set_option maxRecDepth 100000
set_option maxHeartbeats 4000000
namespace K07
open PySem PySem.Spec PyProof.Rows L2
section
variable {X : Cx} {k : Nat}
theorem cr_sortedN (hr : Room k X.A) : CallR X (.builtin "sorted") (rSortedN X.K) := by
  refine sortedG hr (fun b b' => ?_) (fun b => ⟨_, _, rfl⟩) (fun b => ?_) fun I q h => ?_
  · simp [encN, PySem.W.alike, PySem.W.alikeAll]
  · simp [encN, PyData.depth, PyData.depthAll]
  · obtain ⟨its, rv, ⟨o, h1, h2, n, h3⟩, _⟩ := I.tuple h
    obtain ⟨u, v, rfl, ⟨t1, rfl⟩, ⟨t2, rfl⟩⟩ := vals2 rv
    exact ⟨_, Reads.tuple h1 h2 h3 (.cons (.str _ _) (.cons (.int _ _) .nil))⟩
theorem cr_sortedC (hr : Room k X.A) : CallR X (.builtin "sorted") (rSortedC X.K) := by
  refine sortedG hr (fun b b' => ?_) (fun b => ⟨_, _, rfl⟩) (fun b => ?_) fun I q h => ?_
  · simp [encC, PySem.W.alike, PySem.W.alikeAll]
  · simp [encC, PyData.depth, PyData.depthAll]
  · obtain ⟨its, rv, ⟨o, h1, h2, n, h3⟩, _⟩ := I.tuple h
    obtain ⟨u, v, rfl, ⟨t1, rfl⟩, ⟨t2, rfl⟩⟩ := vals2 rv
    exact ⟨_, Reads.tuple h1 h2 h3 (.cons (.int _ _) (.cons (.int _ _) .nil))⟩
theorem pet_tup {es : List Expr} {ta : TA} {c : Nat} {pos : Pos} (h : PAT X es ta) : PET X (.Tuple es c pos) (tTup ta) := by
  intro pins s σ H Q h0 I hq
  refine wpAny_Tuple_spliced (thn (h pos pins s σ H _ h0 I hq) fun us s1 ⟨xs, H1, I1, r, z, q⟩ => ⟨by rw [← r.length]; exact z, ?_⟩)
  have hf : H1 s1.heap.objs.size = none := I1.hok.fresh (Nat.le_refl _)
  exact ⟨.ref s1.heap.objs.size, upd H1 s1.heap.objs.size (.tup xs), I1.laid (t' := s1.toks) (fun b u e => Heap.get?_push_of_some _ e) (Nat.le_refl _) ⟨z, us, r, ⟨_, Heap.get?_push_size _ rfl, rfl, _, rfl⟩⟩, rfl, q _ hf⟩
end
end K07
end

section -- R6
set_option Elab.async false
set_option linter.all false
set_option maxRecDepth 100000
set_option maxHeartbeats 4000000
namespace K07
open PySem PySem.Spec PyProof.Rows L2
/-! ### set(z), z a text of unlike signs -/
section
variable {prog : Program} {w : World} {A : Around} {R : Result → Shared → Prop} {I : Addr} {fp wr : List Addr} {G : Array GenState → Array GenState → Prop} {n : Nat} {Pv : Nat → Value → Prop} {St : Nat → Shared → Prop}
/-- the set's loop over texts, all unlike: at turn i the first i are in -/
theorem set_loop (W : WalksS prog w A.in1 I fp wr G n Pv St) (S : Addr) (hSf : S ∉ fp) (xs : List Str) (hx : xs.length = n) (hn : n < 1000) (hnd : xs.Nodup)
    (hval : ∀ i v, Pv i v → ∃ x t, xs[i]? = some x ∧ v = .str x t) (k : Nat) :
    ∀ (i : Nat) (s : Shared), n - i = k → i ≤ n → St i s → s.heap.SetOf (PySem.strKind prog w) S (fun y => decide (y ∈ xs.take i)) i →
      (∀ s', Moved (S :: wr) G s s' → s'.heap.SetOf (PySem.strKind prog w) S (fun y => decide (y ∈ xs.take n)) n → R (.ok (.ret .none)) s') →
      codeAny (model prog w) A (.builtin "set.update.loop" ⟨[.ref S, .ref I], []⟩) R s := by
  have hSw : S ∉ wr := fun h => hSf (W.sub _ h)
  induction k with
  | zero =>
    intro i s hk hi hst hS hR
    obtain rfl : i = n := by omega
    refine codeAny_builtin PyProof.Rows.F.entry_set_update_loop ?_
    rw [Around.under_plainId PyProof.Rows.F.plain_set_update_loop _]
    show wpAny _ A.in1 (pyNext (.ref I) >>= _) _ _ s
    refine wpAny_bind (W.done s _ _ hst fun s' hm => ?_)
    show wpAny _ A.in1 (ret Value.none) _ _ s'
    refine wpAny_pure (hR s' (hm.mono fun b hb => List.mem_cons_of_mem _ hb) ?_)
    obtain ⟨o, es, ep, t, ho, more⟩ := hS
    exact ⟨o, es, ep, t, hm.heap S _ hSw ho, more⟩
  | succ k ih =>
    intro i s hk hi hst hS hR
    have hlt : i < n := by omega
    refine codeAny_builtin PyProof.Rows.F.entry_set_update_loop ?_
    rw [Around.under_plainId PyProof.Rows.F.plain_set_update_loop _]
    show wpAny _ A.in1 (pyNext (.ref I) >>= _) _ _ s
    refine wpAny_bind (W.item i s _ _ hlt hst fun v s' hP hst' hm => ?_)
    obtain ⟨x, t, hxi, rfl⟩ := hval i v hP
    have hS' : s'.heap.SetOf (PySem.strKind prog w) S (fun y => decide (y ∈ xs.take i)) i := by
      obtain ⟨o, es, ep, tb, ho, more⟩ := hS
      exact ⟨o, es, ep, tb, hm.heap S _ hSw ho, more⟩
    show wpAny _ A.in1 (holding [Value.str x t] (setAdd S (.str x t)) >>= _) _ _ s'
    refine wpAny_bind (wpAny_holding ?_)
    unfold setAdd
    refine wpAny_holding ?_
    refine wpAny_bind ((PySem.strKind prog w).pyHash (k := x) (strKind_is _ _ _ _) ?_)
    refine wpAny_setAddHashed_of (knd := PySem.strKind prog w) (s := { s' with toks := s'.toks + 1 }) (strKind_is _ _ _ _) rfl hS' (by unfold scanBound; omega) fun h' hsb hS2 => ?_
    have hnot : x ∉ xs.take i := fun h => by
      obtain ⟨j, hj, e⟩ := List.mem_iff_getElem.mp h
      have hji : j < i := by
        have q := hj
        rw [List.length_take] at q
        omega
      have hj2 : j < xs.length := by omega
      have e2 : xs[j] = x := by rw [← e, List.getElem_take]
      obtain ⟨h3, e3⟩ := List.getElem?_eq_some_iff.mp hxi
      have e4 := (List.getElem_inj hnd).mp (e2.trans e3.symm)
      omega
    have hSi : h'.SetOf (PySem.strKind prog w) S (fun y => decide (y ∈ xs.take (i + 1))) (i + 1) := by
      refine SetOf_congr hS2 (fun y => ?_) (by simp [hnot])
      have e5 : xs.take (i + 1) = xs.take i ++ [x] := by rw [List.take_succ, hxi]; rfl
      rw [e5]
      simp only [List.mem_append, List.mem_singleton, Bool.decide_or]
    refine wpAny_pure ⟨plainId_quiet PyProof.Rows.F.plain_set_update_loop _, ih (i + 1) _ (by omega) hlt (W.frame _ s' _ _ hst' (Nat.le_succ _) fun b hb o e => ?_) hSi fun s2 hm2 hS3 => ?_⟩
    · rw [hsb.2 b (fun q : b = S => hSf (by rw [← q]; exact hb))]
      exact e
    · refine hR s2 (Moved.trans W.gtrans ((hm.mono fun b hb => List.mem_cons_of_mem _ hb).then_heap (Nat.le_succ _) fun b o hb e => ?_) hm2) hS3
      rw [hsb.2 b (fun q : b = S => hb (by rw [q]; exact List.mem_cons_self))]
      exact e
end
section
variable {prog : Program} {w : World} {A : Around} {E : Value → Shared → Prop} {s : Shared}
set_option maxHeartbeats 3200000 in
theorem call_set_text {z : Str} {tz : Tok} {Q : Value → Shared → Prop} (hh : A.handled = none) (hn : z.cps.size < 1000) (hnd : (signs z).Nodup)
    (h : ∀ (h' : Heap) (tk : Nat), h'.SetOf (PySem.strKind prog w) s.heap.objs.size (fun y => decide (y ∈ (signs z).take z.cps.size)) z.cps.size →
      (∀ b o, b < s.heap.objs.size → s.heap.get? b = some o → h'.get? b = some o) → Q (.ref s.heap.objs.size) { s with heap := h', toks := tk }) :
    wpAny (model prog w) A (call (.type "set") [.str z tz]) Q E s := by
  obtain ⟨c, tl, hmro⟩ := PySem.F.called_set.mro
  have hmade := PySem.F.called_set.made
  have hsub := PySem.F.called_set.sub
  refine wpAny_call (codeAny_of_tree ?_)
  show wpAny _ _ (callAny (.type "set") _) _ _ _
  refine wpAny_pure ⟨Code.quiet_builtin _ (by decide +kernel), codeAny_builtin PySem.F.entry_type_call ?_⟩
  rw [Around.under_plain (weight_type_call_type "set" [.str z tz] []) rfl]
  have h1 := PySem.F.called_set.notType
  have h2 := PySem.F.called_set.canCreate
  have hct := PySem.F.typeCall_set_1 (.str z tz)
  repeat (any_goals (first | assumption | wp_step))
  refine codeAny_mono (code_set_new_1 (.str z tz) (E := E) (Q₁ := fun obj s₁ => ∃ led : Bool, obj = .ref s.heap.objs.size ∧ s₁ = { s with heap := s.heap.push { cls := .type "set", dict := none, data := .set #[] 0 (.fresh 0 0 led) } }) fun led => ⟨led, rfl, rfl⟩) fun r s₁ hr => ?_
  cases r with
  | error e => exact hr
  | ok fl =>
    cases fl with
    | ret obj =>
      obtain ⟨led, rfl, rfl⟩ := hr
      have hS : (s.heap.push { cls := .type "set", dict := none, data := .set #[] 0 (.fresh 0 0 led) }).get? s.heap.objs.size = some { cls := .type "set", dict := none, data := .set #[] 0 (.fresh 0 0 led) } := Heap.get?_push_size _ rfl
      have hT : Shared.TypeIs { s with heap := s.heap.push { cls := .type "set", dict := none, data := .set #[] 0 (.fresh 0 0 led) } } (.ref s.heap.objs.size) "set" := ⟨_, hS, rfl⟩
      have hli := PySem.F.called_set.init.lookup
      have hbi := PySem.F.called_set.init.bind (.ref s.heap.objs.size)
      repeat (any_goals (first | assumption | wp_step))
      refine codeAny_mono (codeAny_call_builtin (R := wants (fun r s₂ => r = .none ∧ ∃ h' tk, s₂ = { s with heap := h', toks := tk } ∧
          h'.SetOf (PySem.strKind prog w) s.heap.objs.size (fun y => decide (y ∈ (signs z).take z.cps.size)) z.cps.size ∧
          (∀ b o, b < s.heap.objs.size → s.heap.get? b = some o → h'.get? b = some o)) E) PySem.F.called_set.init.plain PySem.F.entry_set_init (check_set_init_1 hT ?_)) fun r₂ s₂ hr₂ => ?_
      · have hne : (Value.type "str" == Value.type "dict") = false := by decide
        have q1 := PySem.F.sub_str_set
        have q2 := PySem.F.sub_str_frozenset
        unfold Builtin.«set.__init__» noKeywords Builtin.Frozenset.updateFrom
        generalize hPI : pyIter = PI
        wp_walk
        subst hPI
        refine wpAny_pyIter_str fun o St W hst => ?_
        refine wpAny_bind (wpAny_runValue ?_)
        have hh3 : A.in1.in1.in1.handled = none := by simp [hh]
        have hSf : s.heap.objs.size ∉ [(s.heap.push { cls := .type "set", dict := none, data := .set #[] 0 (.fresh 0 0 led) }).objs.size] := by
          rw [Heap.size_push, List.mem_singleton]
          exact Nat.ne_of_lt (Nat.lt_succ_self _)
        have hsz : (signs z).length = z.cps.size := by simp [signs]
        refine set_loop ((W _ hh3).toS) s.heap.objs.size hSf (signs z) hsz hn hnd (fun i v hv => ?_) (z.cps.size - 0) 0 _ (by omega) (Nat.zero_le _) hst ?_ ?_
        · obtain ⟨c, u, hc, rfl⟩ := hv
          exact ⟨⟨#[c]⟩, u, by simp [signs, hc], rfl⟩
        · have hget : ((s.heap.push { cls := .type "set", dict := none, data := .set #[] 0 (.fresh 0 0 led) }).push o).get? s.heap.objs.size = some { cls := .type "set", dict := none, data := .set #[] 0 (.fresh 0 0 led) } := Heap.get?_push_of_some _ hS
          exact PyProof.Rows.SetOf_congr ((PyProof.Rows.setObjOf_fresh (knd := PySem.strKind prog w) led).setOf hget (by unfold scanBound; omega)) (fun y => by simp) rfl
        · intro s' hm hS'
          obtain ⟨h', g', d', tk', os'⟩ := s'
          have eg : g' = s.gens := hm.gens
          have ed : d' = s.drawn := hm.drawn
          have eo : os' = s.os := hm.os
          subst eg ed eo
          show wpAny _ _ _ _ _ _
          refine wpAny_pure ?_
          show wpAny _ _ (ret Value.none) _ _ _
          refine wpAny_pure ⟨rfl, h', tk', rfl, hS', fun b o hb e => ?_⟩
          have hb1 : b ≠ s.heap.objs.size := Nat.ne_of_lt hb
          have hb2 : b ≠ (s.heap.push { cls := .type "set", dict := none, data := .set #[] 0 (.fresh 0 0 led) }).objs.size := by
            rw [Heap.size_push]
            exact Nat.ne_of_lt (Nat.lt_succ_of_lt hb)
          exact hm.heap b o (by simp only [List.mem_cons, List.mem_singleton, List.not_mem_nil, or_false, not_or]; exact ⟨hb1, hb2⟩) (Heap.get?_push_of_some _ (Heap.get?_push_of_some _ e))
      · cases r₂ with
        | error e => exact hr₂
        | ok fl₂ =>
          cases fl₂ with
          | ret r =>
            obtain ⟨rfl, h', tk, rfl, hS', hk'⟩ := hr₂
            repeat (any_goals (first | assumption | wp_step))
            exact h _ _ hS' hk'
          | _ => exact hr₂.elim
    | _ => exact hr.elim
end
section
variable {X : Cx} {k : Nat}
def tLenSetS (te : TE) : TE := fun σ H Q => te σ H fun x H1 => ∃ z : Str, x = .str z ∧ (signs z).Nodup ∧ z.cps.size < 1000 ∧ Q (.int z.cps.size) H1
theorem pe_lenSetS {e : Expr} {te : TE} {p p2 q pos : Pos} (hcal : X.calm = true) (hg : Gl X "len") (hm : X.mg "len" = none) (hg2 : Gl X "set") (hm2 : X.mg "set" = none) (ha : PE X e te)
    (na : starEach [e] X.env = (false, eval e X.env) :: starEach [] X.env := by rfl) : PE X (.Call (.Name "len" p) [.Call (.Name "set" p2) [e] [] q] [] pos) (tLenSetS te) := by
  refine ⟨fun pins s σ H Q I h => ?_⟩
  refine Call_ (ld_blt I hg hm boot_len ?_)
  refine PyProof.Rows.callWith_builtin1 (PyProof.Rows.args_cons ?_ rfl) rfl rfl
  refine Call_ (ld_blt I hg2 hm2 boot_set ?_)
  refine PyProof.Rows.callWith_type1 (PyProof.Rows.args_cons (thn (ha.run pins s σ H _ I h) fun v s1 ⟨x, H1, I1, r1, q1⟩ => PyProof.Rows.args_nil ?_) na) na rfl
  obtain ⟨z, rfl, hnd, hn, q1⟩ := q1
  obtain ⟨tz, rfl⟩ := r1
  refine call_set_text (I1.ok.hd hcal) hn hnd fun h' tk hS hk => ?_
  refine PyProof.Rows.args_nil ?_
  obtain ⟨o, es, ep, t, ho, hex, hd, _, _, _, hf, hsz⟩ := hS
  have I2 : Inv X pins σ H1 { s1 with heap := h', toks := tk } := I1.kept fun b o e => hk b o (Heap.lt_size e) e
  exact call_len_set ho hex hd hf (by rw [hsz]; omega) ⟨.int z.cps.size, H1, I2.tok _, ⟨_, by rw [hsz]⟩, q1⟩
end
end K07
end

section -- R7
set_option Elab.async false
set_option linter.all false
set_option maxRecDepth 100000
set_option maxHeartbeats 4000000
namespace K07
open PySem PySem.Spec PyProof.Rows L2
section
variable {X : Cx} {k : Nat}
def rDictT (K : PySem.W.Frag) : List V → Hp → VK → Prop := fun xs H Q => ∃ (a : Addr) (ps : List Addr) (kvs : List (Key × V)), xs = [.ref a] ∧ Tu H a (ps.map V.ref) ∧ Paired (fun p kv => SqT K H p [kV kv.1, kv.2]) ps kvs ∧
  ∀ p, H p = none → Q (.ref p) (upd H p (.dK (mergeK [] kvs)))
theorem call_dictT (hcal : X.calm = true) : CallR X (.type "dict") (rDictT X.K) := by
  intro pins s σ H vs us Q I r h
  obtain ⟨a, ps, kvs, rfl, hq, hp, q⟩ := h
  rw [Vals.ref1 r]
  obtain ⟨ob, hob, hfz⟩ := hq
  obtain ⟨its, rv, pl, hz⟩ := I.tuple (Tu.sq ⟨ob, hob, hfz⟩)
  obtain ⟨hget, _⟩ := (show ObjOk X.prog X.w H s.heap a (.frz ob (.tup (ps.map V.ref))) from I.hok a _ hfz)
  have ei := refs_at rv
  subst ei
  rw [List.length_map] at hz
  obtain ⟨prs, rel, hl, hpr⟩ := pairs_of I hp
  have hm : (s.heap.objs.size == sysModules) = false := beq_eq_false_iff_ne.mpr (Nat.ne_of_gt I.big)
  have hlen : (mergeK [] kvs).length ≤ sizeLine := by
    refine Nat.le_trans (length_mergeK kvs []) ?_
    rw [List.length_nil, Nat.zero_add, rel.length, hl]
    exact hz
  let pv : List (Value × Value) := (List.range prs.length).map fun j => (match ps[j]? with
    | some b => (match s.heap.get? b with
      | some ⟨_, _, .seq its _, _⟩ => its.getD 0 .none
      | _ => .none)
    | none => .none, (prs.getD j (.inl 0, .none)).2)
  have pvl : pv.length = prs.length := by simp [pv]
  have pvj : ∀ (j : Nat) (q : Key × Value), prs[j]? = some q → ∃ (b : Addr) (u : Value), ps[j]? = some b ∧ IsTup s.heap b #[u, q.2] ∧ keyIs q.1 u = true ∧ pv[j]? = some (u, q.2) := fun j q e => by
    obtain ⟨b, u, e1, e2, e3⟩ := hpr j q e
    refine ⟨b, u, e1, e2, e3, ?_⟩
    have hj := (List.getElem?_eq_some_iff.mp e).1
    obtain ⟨o, h1, h2, n, h3⟩ := e2
    obtain ⟨c, dc, dt, sl⟩ := o
    simp only at h3
    subst h3
    simp only [pv, List.getElem?_map, List.getElem?_range hj, Option.map_some, e1, h1, List.getD_eq_getElem?_getD, e]
    rfl
  obtain ⟨o, ho, hc, n, hdat⟩ := pl
  have hdict : o.dict = none := by
    rw [hget] at ho
    cases ho
    exact hob
  refine PySem.call_dict_pairs (knd := mixKind X.prog X.w) (kvs := prs) (PairArg.tuple a (ps.map Value.ref).toArray (fun j => ps.getD j 0) pv) (I.ok.hd hcal) ⟨⟨o, n, ho, hc, hdict, hdat⟩, ?_, fun j u v e => ?_⟩ ⟨pvl.symm, fun j u v e => ?_⟩ (by rw [pvl, hl]; exact hz) fun h' tk hd' hk => ?_
  · rw [pvl, hl]; simp
  · have hj : j < prs.length := by rw [← pvl]; exact (List.getElem?_eq_some_iff.mp e).1
    obtain ⟨b, u', e1, e2, e3, e4⟩ := pvj j _ (List.getElem?_eq_getElem hj)
    rw [e4] at e
    cases e
    have e5 : ps.getD j 0 = b := by rw [List.getD_eq_getElem?_getD, e1]; rfl
    exact ⟨by simp [e1, e5], .inl (by show s.heap.IsTuple (ps.getD j 0) _; rw [e5]; exact e2)⟩
  · have e : pv[j]? = some (u, v) := e
    have hj : j < prs.length := by rw [← pvl]; exact (List.getElem?_eq_some_iff.mp e).1
    obtain ⟨b, u', e1, e2, e3, e4⟩ := pvj j _ (List.getElem?_eq_getElem hj)
    rw [e4] at e
    cases e
    exact ⟨(prs[j]).1, by rw [List.getElem?_eq_getElem hj], e3⟩
  · exact ⟨.ref s.heap.objs.size, upd H s.heap.objs.size (.dK (mergeK [] kvs)), I.laid (t' := tk) (fun b o e => hk b o (by simp) e) (Nat.le_refl _) (show ObjOk X.prog X.w _ _ _ (.dK (mergeK [] kvs)) from ⟨hlen, hm, merged [] prs, KV.merge rel .nil, hd'⟩), rfl, q _ (I.hok.fresh (Nat.le_refl _))⟩
end
end K07
end

section -- A2
set_option Elab.async false
set_option linter.all false
set_option maxRecDepth 100000
set_option maxHeartbeats 4000000
namespace K07
open PySem PySem.Spec PyProof.Rows L2
/-! ### what classes, properties and == of the module promise -/
structure CalMk (P : Program) (w : World) (K : PySem.W.Frag) (mg : Str → Option Value) (base : Heap) (k : Nat) (C : Addr) (ps : List Str) (sp : Sp) : Prop where
  ex : ∃ (f : Addr) (fd : FuncData), FnOk P w K mg base CX0 k f fd ps sp ∧ Mk K C f ∧ Binds K fd ps []
structure CalPr (P : Program) (w : World) (K : PySem.W.Frag) (mg : Str → Option Value) (base : Heap) (k : Nat) (C : Addr) (x : Str) (sp : Sp) : Prop where
  ex : ∃ (p f : Addr) (fd : FuncData), FnOk P w K mg base CX0 k f fd ["self"] sp ∧ PropOf K C x p f ∧ Cls K C ∧ Binds K fd ["self"] []
section
variable {X : Cx} {k : Nat} {C : Addr} {x : Str} {ps : List Str} {sp : Sp} {e o : Expr} {es : List Expr} {t : TA} {te ta tb : TE} {p pos : Pos}
theorem pe_mk (M : CalMk X.prog X.w X.K X.mg X.base k C ps sp) (hr : Room (k + 1) X.A) (hg : Gl X x) (hm : X.mg x = some (.ref C))
    (ha : PA X (e :: es) t) (hdb : (x == ("__debug__" : Str)) = false := by decide)
    (he : starEach (e :: es) X.env = (false, eval e X.env) :: starEach es X.env := by rfl) (hpl : (backTo pos (starEach es X.env)).any (·.1) = false := by rfl) :
    PE X (.Call (.Name x p) (e :: es) [] pos) (tMake C sp [] E0 t) := by
  obtain ⟨f, fd, F, h1, h3⟩ := M.ex
  exact pe_make h1 F hr hg hm h3 .nil pass0 ha hdb he hpl
theorem pe_prp (M : CalPr X.prog X.w X.K X.mg X.base k C x sp) (hr : Room (k + 1) X.A) (he : PE X e te)
    (hab : attributeBase e x X.env (eval e X.env) = eval e X.env) : PE X (.Attribute e x pos) (tProp C sp [] E0 te) := by
  obtain ⟨q, f, fd, F, h1, h2, h3⟩ := M.ex
  exact pe_prop he h2 h1 F hr h3 .nil pass0 hab
end
end K07
end

section -- M1
set_option linter.all false
set_option autoImplicit false
namespace M7
/-! ### walks along arrows -/
abbrev Fn := Int → Option Int
inductive Path (f : Fn) : Int → List Int → Int → Prop
  | nil (p : Int) : Path f p [] p
  | cons {p q e : Int} {l : List Int} : f p = some q → Path f q l e → Path f p (p :: l) e
/-- the law's way: cells, and the place behind -/
def wayGo (f : Fn) : Nat → List Int → Int → List Int × Int
  | 0, s, p => (s, p)
  | n + 1, s, p => match f p with
    | none => (s, p)
    | some q => if p ∈ s then (s, p) else wayGo f n (s ++ [p]) q
/-- the program's walk that gathers cells -/
def reachGo (f : Fn) : Nat → List Int → Int → Option (List Int)
  | 0, _, _ => none
  | n + 1, fd, p => match f p with
    | none => some fd
    | some q => if p ∈ fd then some fd else reachGo f n (fd ++ [p]) q
def reachAll (f : Fn) (N : Nat) : List Int → List Int → Option (List Int)
  | [], fd => some fd
  | p :: ps, fd => (reachGo f N fd p).bind (reachAll f N ps)
def cnt (f : Fn) (come : List Int) (x : Int) : Nat := come.countP fun c => f c == some x
/-- the program's knots, the law's knots -/
def isK (f : Fn) (heads come : List Int) (x : Int) : Bool := heads.contains x || (decide (0 < cnt f come x) && ((f x).isNone || decide (1 < cnt f come x)))
def isL (f : Fn) (heads come : List Int) (x : Int) : Bool := (f x).isNone || heads.contains x || decide (1 < cnt f come x)
def ordGo (f : Fn) (K : Int → Bool) : Nat → List Int → Int → Option (List Int)
  | 0, _, _ => none
  | n + 1, fd, p => if p ∈ fd then some fd else match f p with
    | none => some (if K p then fd ++ [p] else fd)
    | some q => ordGo f K n (if K p then fd ++ [p] else fd) q
def ordAll (f : Fn) (K : Int → Bool) (N : Nat) : List Int → List Int → Option (List Int)
  | [], fd => some fd
  | p :: ps, fd => (ordGo f K N fd p).bind (ordAll f K N ps)
def strGo (f : Fn) (K : Int → Bool) : Nat → List Int → Int → Option (List Int × Int)
  | 0, _, _ => none
  | n + 1, cs, b => if K b then some (cs, b) else match f b with
    | none => none
    | some q => strGo f K n (cs ++ [b]) q
def stretch (f : Fn) (K : Int → Bool) (N : Nat) (k : Int) : Option (List Int × Int) := (f k).bind fun b => strGo f K N [k] b
/-- the law's line from a knot -/
def lineGo (f : Fn) (ks : List Int) : Nat → List Int → Int → Option (List Int × Int)
  | 0, cs, b => some (cs, b)
  | n + 1, cs, b => if b ∈ ks then some (cs, b) else match f b with
    | none => none
    | some q => lineGo f ks n (cs ++ [b]) q
def lawCome (f : Fn) (N : Nat) : List Int → List Int → List Int
  | [], c => c
  | p :: ps, c => lawCome f N ps (c ++ (wayGo f N [] p).1.filter fun x => !c.contains x)
def addAll (L : Int → Bool) : List Int → List Int → List Int
  | [], fd => fd
  | x :: xs, fd => addAll L xs (if !fd.contains x && L x then fd ++ [x] else fd)
def lawFound (f : Fn) (L : Int → Bool) (N : Nat) : List Int → List Int → List Int
  | [], fd => fd
  | p :: ps, fd => lawFound f L N ps (addAll L ((wayGo f N [] p).1 ++ [(wayGo f N [] p).2]) fd)

/-! ### paths -/
variable {f : Fn}
theorem Path.snoc {p e q : Int} {l : List Int} (h : Path f p l e) (he : f e = some q) : Path f p (l ++ [e]) q := by
  induction h with
  | nil p => exact .cons he (.nil q)
  | cons h1 h2 ih => exact .cons h1 (ih he)
theorem Path.app {p e z : Int} {l m : List Int} (h : Path f p l e) (h2 : Path f e m z) : Path f p (l ++ m) z := by
  induction h with
  | nil p => exact h2
  | cons h1 _ ih => exact .cons h1 (ih h2)
theorem Path.some_of {p e : Int} {l : List Int} (h : Path f p l e) : ∀ x ∈ l, ∃ q, f x = some q := by
  induction h with
  | nil p => intro x hx; cases hx
  | cons h1 _ ih =>
    intro x hx
    rcases List.mem_cons.mp hx with rfl | hx
    · exact ⟨_, h1⟩
    · exact ih x hx
theorem Path.split {p e x : Int} {l : List Int} (h : Path f p l e) (hx : x ∈ l ++ [e]) : ∃ a b, l = a ++ b ∧ Path f p a x ∧ Path f x b e := by
  induction h with
  | nil p =>
    have : x = p := by simpa using hx
    subst this
    exact ⟨[], [], rfl, .nil _, .nil _⟩
  | @cons p q e l h1 h2 ih =>
    rcases List.mem_cons.mp hx with rfl | hx
    · exact ⟨[], _, rfl, .nil _, .cons h1 h2⟩
    · obtain ⟨a, b, rfl, ha, hb⟩ := ih hx
      exact ⟨p :: a, b, rfl, .cons h1 ha, hb⟩
theorem Path.next {p e : Int} {l : List Int} (h : Path f p l e) : ∀ (i : Nat) (x : Int), l[i]? = some x → ∃ y, f x = some y ∧ (l ++ [e])[i + 1]? = some y := by
  induction h with
  | nil p => intro i x hx; simp at hx
  | @cons p q e l h1 h2 ih =>
    intro i x hx
    cases i with
    | zero =>
      simp at hx
      subst hx
      refine ⟨q, h1, ?_⟩
      cases h2 with
      | nil => simp
      | cons h3 h4 => simp
    | succ i =>
      obtain ⟨y, h3, h4⟩ := ih i x (by simpa using hx)
      exact ⟨y, h3, by simpa using h4⟩
theorem Path.first {p e : Int} {l : List Int} (h : Path f p l e) : (l ++ [e])[0]? = some p := by
  cases h with
  | nil => simp
  | cons => simp

/-! ### the law's way -/
theorem wayGo_path (n : Nat) : ∀ (s : List Int) (p p0 : Int), Path f p0 s p → Path f p0 (wayGo f n s p).1 (wayGo f n s p).2 := by
  induction n with
  | zero => intro s p p0 h; exact h
  | succ n ih =>
    intro s p p0 h
    unfold wayGo
    split
    · exact h
    · rename_i q hq
      split
      · exact h
      · exact ih _ _ _ (h.snoc hq)
theorem wayGo_nodup (n : Nat) : ∀ (s : List Int) (p : Int), s.Nodup → (wayGo f n s p).1.Nodup := by
  induction n with
  | zero => intro s p h; exact h
  | succ n ih =>
    intro s p h
    unfold wayGo
    split
    · exact h
    · split
      · exact h
      · rename_i hn
        exact ih _ _ (by rw [List.nodup_append]; exact ⟨h, by simp, fun a ha b hb => by simp at hb; subst hb; exact fun e => hn (e ▸ ha)⟩)
theorem len_le_of_sub : ∀ {l m : List Int}, l.Nodup → (∀ x ∈ l, x ∈ m) → l.length ≤ m.length := by
  intro l
  induction l with
  | nil => intro m _ _; exact Nat.zero_le _
  | cons a l ih =>
    intro m hn hs
    have ha : a ∈ m := hs a (List.mem_cons_self ..)
    have h2 := ih (m := m.erase a) (List.nodup_cons.mp hn).2 fun x hx => by
      have hne : x ≠ a := fun e => (List.nodup_cons.mp hn).1 (e ▸ hx)
      exact (List.mem_erase_of_ne hne).mpr (hs x (List.mem_cons_of_mem _ hx))
    rw [List.length_erase_of_mem ha] at h2
    have : 0 < m.length := List.length_pos_of_mem ha
    simp only [List.length_cons]
    omega
/-- all that has an arrow is in dom -/
def FinD (f : Fn) (dom : List Int) : Prop := ∀ x q, f x = some q → x ∈ dom
theorem path_len {dom l : List Int} {p e : Int} (hf : FinD f dom) (h : Path f p l e) (hn : l.Nodup) : l.length ≤ dom.length :=
  len_le_of_sub hn fun x hx => let ⟨q, hq⟩ := h.some_of x hx; hf x q hq
theorem wayGo_len (n : Nat) : ∀ (s : List Int) (p : Int), s.length ≤ (wayGo f n s p).1.length := by
  induction n with
  | zero => intro s p; exact Nat.le_refl _
  | succ n ih =>
    intro s p
    unfold wayGo
    split
    · exact Nat.le_refl _
    · split
      · exact Nat.le_refl _
      · rename_i q _ _
        have h2 := ih (s ++ [p]) q
        simp only [List.length_append, List.length_singleton] at h2
        omega
/-- the way stops by itself, or has taken all its turns -/
theorem wayGo_end (n : Nat) : ∀ (s : List Int) (p : Int), (f (wayGo f n s p).2 = none ∨ (wayGo f n s p).2 ∈ (wayGo f n s p).1) ∨ (wayGo f n s p).1.length = s.length + n := by
  induction n with
  | zero => intro s p; exact .inr rfl
  | succ n ih =>
    intro s p
    unfold wayGo
    split
    · rename_i h; exact .inl (.inl h)
    · split
      · rename_i h; exact .inl (.inr h)
      · rename_i q _ _
        rcases ih (s ++ [p]) q with h | h
        · exact .inl h
        · refine .inr ?_
          rw [h]
          simp only [List.length_append, List.length_singleton]
          omega
/-- what a way is -/
structure IsWay (f : Fn) (p : Int) (w : List Int) (e : Int) : Prop where
  path : Path f p w e
  nodup : w.Nodup
  stop : f e = none ∨ e ∈ w
theorem way_is {dom : List Int} (hf : FinD f dom) {N : Nat} (hN : dom.length < N) (p : Int) : IsWay f p (wayGo f N [] p).1 (wayGo f N [] p).2 := by
  have h1 := wayGo_path (f := f) N [] p p (.nil p)
  have h2 := wayGo_nodup (f := f) N [] p .nil
  refine ⟨h1, h2, ?_⟩
  rcases wayGo_end (f := f) N [] p with h | h
  · exact h
  · have := path_len hf h1 h2
    simp at h
    omega
/-- whatever is come to from p lies on its way -/
theorem IsWay.all {p e : Int} {w : List Int} (h : IsWay f p w e) : ∀ {x y : Int} {l : List Int}, x ∈ w ++ [e] → Path f x l y → y ∈ w ++ [e] := by
  intro x y l hx hp
  induction hp with
  | nil => exact hx
  | @cons x q y l h1 h2 ih =>
    apply ih
    rcases List.mem_append.mp hx with hx | hx
    · obtain ⟨i, hi, rfl⟩ := List.mem_iff_getElem.mp hx
      obtain ⟨z, hz, hz2⟩ := h.path.next i w[i] (by simp [hi])
      rw [h1] at hz
      cases hz
      exact List.mem_of_getElem? hz2
    · have : x = e := by simpa using hx
      subst this
      rcases h.stop with h3 | h3
      · rw [h3] at h1; cases h1
      · obtain ⟨i, hi, e3⟩ := List.mem_iff_getElem.mp h3
        obtain ⟨z, hz, hz2⟩ := h.path.next i x (by rw [← e3]; simp [hi])
        rw [h1] at hz
        cases hz
        exact List.mem_of_getElem? hz2
theorem IsWay.start {p e : Int} {w : List Int} (h : IsWay f p w e) : p ∈ w ++ [e] := List.mem_of_getElem? h.path.first

/-! ### reached cells -/
/-- closed along arrows, as far as there are cells -/
def Closed (f : Fn) (c : List Int) : Prop := ∀ x ∈ c, ∀ q, f x = some q → ∀ r, f q = some r → q ∈ c
theorem wayGo_in {c : List Int} (hc : Closed f c) (n : Nat) : ∀ (s : List Int) (p : Int), (∀ r, f p = some r → p ∈ c) → ∃ rest, (wayGo f n s p).1 = s ++ rest ∧ ∀ x ∈ rest, x ∈ c := by
  induction n with
  | zero => intro s p h; exact ⟨[], by simp [wayGo], by simp⟩
  | succ n ih =>
    intro s p h
    unfold wayGo
    split
    · exact ⟨[], by simp, by simp⟩
    · rename_i q hq
      split
      · exact ⟨[], by simp, by simp⟩
      · obtain ⟨rest, h1, h2⟩ := ih (s ++ [p]) q fun r hr => hc p (h _ hq) q hq r hr
        exact ⟨p :: rest, by rw [h1]; simp, fun x hx => by
          rcases List.mem_cons.mp hx with rfl | hx
          · exact h _ hq
          · exact h2 x hx⟩
theorem filter_none {c l : List Int} (h : ∀ x ∈ l, x ∈ c) : (l.filter fun x => !c.contains x) = [] := by
  rw [List.filter_eq_nil_iff]
  intro x hx
  simp [h x hx]
theorem filter_all {c l : List Int} (h : ∀ x ∈ l, x ∉ c) : (l.filter fun x => !c.contains x) = l := by
  rw [List.filter_eq_self]
  intro x hx
  simp [h x hx]
theorem reach_way {dom c : List Int} (hf : FinD f dom) (hc : Closed f c) (n : Nat) : ∀ (s : List Int) (p p0 : Int), Path f p0 s p → s.Nodup → (∀ x ∈ s, x ∉ c) → dom.length < s.length + n →
    reachGo f n (c ++ s) p = some (c ++ (wayGo f n s p).1.filter fun x => !c.contains x) := by
  induction n with
  | zero =>
    intro s p p0 hp hn _ hl
    have := path_len hf hp hn
    omega
  | succ n ih =>
    intro s p p0 hp hn hs hl
    unfold reachGo
    cases hq : f p with
    | none =>
      simp only [wayGo, hq]
      rw [filter_all hs]
    | some q =>
      simp only
      by_cases h1 : p ∈ s
      · rw [if_pos (List.mem_append_right _ h1)]
        simp only [wayGo, hq, if_pos h1]
        rw [filter_all hs]
      · by_cases h2 : p ∈ c
        · rw [if_pos (List.mem_append_left _ h2)]
          obtain ⟨rest, h3, h4⟩ := wayGo_in hc n (s ++ [p]) q fun r hr => hc p h2 q hq r hr
          simp only [wayGo, hq, if_neg h1]
          rw [h3, List.filter_append, List.filter_append, filter_all hs, filter_none h4, filter_none (l := [p]) (by simp [h2])]
          simp
        · rw [if_neg (by simp [h1, h2])]
          simp only [wayGo, hq, if_neg h1]
          rw [List.append_assoc]
          exact ih (s ++ [p]) q p0 (hp.snoc hq) (by rw [List.nodup_append]; exact ⟨hn, by simp, fun a ha b hb => by simp at hb; subst hb; exact fun e => h1 (e ▸ ha)⟩)
            (fun x hx => by rcases List.mem_append.mp hx with hx | hx; exact hs x hx; simp at hx; subst hx; exact h2) (by simp only [List.length_append, List.length_singleton]; omega)
theorem Closed.nil : Closed f [] := fun x hx => nomatch hx
theorem way_closed {c w : List Int} {p e : Int} (hc : Closed f c) (hw : IsWay f p w e) : Closed f (c ++ w.filter fun x => !c.contains x) := by
  intro x hx q hq r hr
  have key : q ∈ c ∨ q ∈ w := by
    rcases List.mem_append.mp hx with hx | hx
    · exact .inl (hc x hx q hq r hr)
    · have hx2 := (List.mem_filter.mp hx).1
      have := hw.all (List.mem_append_left [e] hx2) (.cons hq (.nil q))
      rcases List.mem_append.mp this with h | h
      · exact .inr h
      · have : q = e := by simpa using h
        subst this
        rcases hw.stop with h3 | h3
        · rw [h3] at hr; cases hr
        · exact .inr h3
  by_cases h : q ∈ c
  · exact List.mem_append_left _ h
  · refine List.mem_append_right _ (List.mem_filter.mpr ⟨key.resolve_left h, by simp [h]⟩)
theorem reachAll_eq {dom : List Int} (hf : FinD f dom) {N : Nat} (hN : dom.length < N) : ∀ (ps c : List Int), Closed f c → reachAll f N ps c = some (lawCome f N ps c) := by
  intro ps
  induction ps with
  | nil => intro c _; rfl
  | cons p ps ih =>
    intro c hc
    have h := reach_way hf hc N [] p p (.nil p) .nil (by simp) (by simpa using hN)
    rw [List.append_nil] at h
    simp only [reachAll, h, Option.bind_some, lawCome]
    exact ih _ (way_closed hc (way_is hf hN p))
/-- x is reached: a cell on the way of a head -/
def Reached (f : Fn) (heads : List Int) (x : Int) : Prop := ∃ p ∈ heads, ∃ l, Path f p l x
theorem lawCome_mem {dom : List Int} (hf : FinD f dom) {N : Nat} (hN : dom.length < N) : ∀ (ps c : List Int) (x : Int), x ∈ lawCome f N ps c ↔ x ∈ c ∨ ((∃ q, f x = some q) ∧ Reached f ps x) := by
  intro ps
  induction ps with
  | nil =>
    intro c x
    simp [lawCome, Reached]
  | cons p ps ih =>
    intro c x
    have hw := way_is hf hN p
    simp only [lawCome]
    rw [ih]
    constructor
    · rintro (h | ⟨h1, q, hq, l, hl⟩)
      · rcases List.mem_append.mp h with h | h
        · exact .inl h
        · have h2 := (List.mem_filter.mp h).1
          obtain ⟨a, b, _, ha, _⟩ := hw.path.split (List.mem_append_left _ h2)
          exact .inr ⟨hw.path.some_of x h2, p, List.mem_cons_self .., a, ha⟩
      · exact .inr ⟨h1, q, List.mem_cons_of_mem _ hq, l, hl⟩
    · rintro (h | ⟨⟨z, hz⟩, q, hq, l, hl⟩)
      · exact .inl (List.mem_append_left _ h)
      · rcases List.mem_cons.mp hq with rfl | hq
        · left
          by_cases hc : x ∈ c
          · exact List.mem_append_left _ hc
          · have h3 := hw.all hw.start hl
            have h4 : x ∈ (wayGo f N [] q).1 := by
              rcases List.mem_append.mp h3 with h | h
              · exact h
              · have e : x = (wayGo f N [] q).2 := by simpa using h
                rcases hw.stop with h5 | h5
                · rw [← e, hz] at h5; cases h5
                · rw [e]; exact h5
            exact List.mem_append_right _ (List.mem_filter.mpr ⟨h4, by simp [hc]⟩)
        · exact .inr ⟨⟨z, hz⟩, q, hq, l, hl⟩
theorem lawCome_nodup {dom : List Int} (hf : FinD f dom) {N : Nat} (hN : dom.length < N) : ∀ (ps c : List Int), c.Nodup → (lawCome f N ps c).Nodup := by
  intro ps
  induction ps with
  | nil => intro c h; exact h
  | cons p ps ih =>
    intro c h
    refine ih _ ?_
    rw [List.nodup_append]
    refine ⟨h, (way_is hf hN p).nodup.filter _, fun a ha b hb e => ?_⟩
    subst e
    have := (List.mem_filter.mp hb).2
    simp [ha] at this
theorem Reached.step {heads : List Int} {x q : Int} (h : Reached f heads x) (hq : f x = some q) : Reached f heads q := by
  obtain ⟨p, hp, l, hl⟩ := h
  exact ⟨p, hp, _, hl.snoc hq⟩
theorem Reached.path {heads l : List Int} {x y : Int} (h : Reached f heads x) (hl : Path f x l y) : Reached f heads y := by
  obtain ⟨p, hp, m, hm⟩ := h
  exact ⟨p, hp, _, hm.app hl⟩
theorem Reached.head {heads : List Int} {x : Int} (h : x ∈ heads) : Reached f heads x := ⟨x, h, [], .nil x⟩

/-! ### counts -/
section
variable {dom heads come : List Int} {N : Nat}
theorem cnt_pos {x c : Int} (h : c ∈ come) (hc : f c = some x) : 0 < cnt f come x := List.countP_pos_iff.mpr ⟨c, h, by simp [hc]⟩
theorem cnt_pos_iff {x : Int} : 0 < cnt f come x ↔ ∃ c ∈ come, f c = some x := by
  unfold cnt
  rw [List.countP_pos_iff]
  simp
theorem cnt_two {x c d : Int} (h : c ∈ come) (h2 : d ∈ come) (hc : f c = some x) (hd : f d = some x) (hne : c ≠ d) : 1 < cnt f come x := by
  have h3 : d ∈ come.erase c := (List.mem_erase_of_ne hne.symm).mpr h2
  have h4 := List.perm_cons_erase h
  have h5 : cnt f come x = cnt f (c :: come.erase c) x := h4.countP_eq _
  rw [h5]
  unfold cnt
  rw [List.countP_cons_of_pos (by simp [hc])]
  have := (List.countP_pos_iff (p := fun c => f c == some x)).mpr ⟨d, h3, by simp [hd]⟩
  omega
theorem cnt_one (hn : come.Nodup) {x c d : Int} (h : c ∈ come) (h2 : d ∈ come) (hc : f c = some x) (hd : f d = some x) (h1 : ¬ 1 < cnt f come x) : c = d := by
  by_cases e : c = d
  · exact e
  · exact absurd (cnt_two h h2 hc hd e) h1
/-- the setting: come holds just the reached cells -/
structure Come (f : Fn) (heads come : List Int) : Prop where
  mem : ∀ x, x ∈ come ↔ (∃ q, f x = some q) ∧ Reached f heads x
  nodup : come.Nodup
theorem come_of (hf : FinD f dom) (hN : dom.length < N) : Come f heads (lawCome f N heads []) :=
  ⟨fun x => by rw [lawCome_mem hf hN]; simp, lawCome_nodup hf hN _ _ .nil⟩
theorem Path.last {p x : Int} {l : List Int} (h : Path f p l x) : (l = [] ∧ p = x) ∨ ∃ a c, l = a ++ [c] ∧ Path f p a c ∧ f c = some x := by
  induction h with
  | nil p => exact .inl ⟨rfl, rfl⟩
  | @cons p q e l h1 h2 ih =>
    right
    rcases ih with ⟨rfl, rfl⟩ | ⟨a, c, rfl, h3, h4⟩
    · exact ⟨[], p, rfl, .nil p, h1⟩
    · exact ⟨p :: a, c, rfl, .cons h1 h3, h4⟩
theorem isK_eq (C : Come f heads come) {x : Int} (h : Reached f heads x) : isK f heads come x = isL f heads come x := by
  unfold isK isL
  by_cases hh : x ∈ heads
  · simp [hh]
  · obtain ⟨p, hp, l, hl⟩ := h
    rcases hl.last with ⟨_, rfl⟩ | ⟨a, c, rfl, h3, h4⟩
    · exact absurd hp hh
    · have hc : c ∈ come := (C.mem c).mpr ⟨⟨_, h4⟩, p, hp, a, h3⟩
      have := cnt_pos hc h4
      simp [hh, this]
theorem L_none {x : Int} (h : f x = none) : isL f heads come x = true := by simp [isL, h]
theorem L_head {x : Int} (h : x ∈ heads) : isL f heads come x = true := by simp [isL, h]
theorem L_two {x : Int} (h : 1 < cnt f come x) : isL f heads come x = true := by simp [isL, h]
theorem L_not {x : Int} (h : isL f heads come x = false) : (∃ q, f x = some q) ∧ x ∉ heads ∧ ¬ 1 < cnt f come x := by
  simp only [isL, Bool.or_eq_false_iff] at h
  obtain ⟨⟨h1, h2⟩, h3⟩ := h
  refine ⟨?_, by simpa using h2, by simpa using h3⟩
  cases q : f x with
  | none => rw [q] at h1; simp at h1
  | some z => exact ⟨z, rfl⟩
/-- the end of a way from a knot is a knot -/
theorem way_end_L (C : Come f heads come) {p e : Int} {w : List Int} (hp : Reached f heads p) (hL : isL f heads come p = true) (hw : IsWay f p w e) : isL f heads come e = true := by
  rcases hw.stop with h | h
  · exact L_none h
  · obtain ⟨j, hj, ej⟩ := List.mem_iff_getElem.mp h
    cases j with
    | zero =>
      have h1 := hw.path.first
      have h2 : (w ++ [e])[0]? = some e := by rw [List.getElem?_append_left hj, List.getElem?_eq_getElem hj, ej]
      rw [h1] at h2
      cases h2
      exact hL
    | succ j =>
      have hj' : j < w.length := by omega
      obtain ⟨y, h1, h2⟩ := hw.path.next j w[j] (by simp [hj'])
      have ey : y = e := by
        rw [List.getElem?_append_left hj, List.getElem?_eq_getElem hj] at h2
        rw [← ej]
        exact (Option.some.inj h2).symm
      subst ey
      have hl : w.length - 1 < w.length := by omega
      obtain ⟨z, h3, h4⟩ := hw.path.next (w.length - 1) w[w.length - 1] (by simp [hl])
      have ez : z = y := by
        have : w.length - 1 + 1 = w.length := by omega
        rw [this, List.getElem?_append_right (Nat.le_refl _)] at h4
        simp at h4
        exact h4.symm
      subst ez
      have r1 : ∀ i (hi : i < w.length), w[i] ∈ come := fun i hi => by
        refine (C.mem _).mpr ⟨hw.path.some_of _ (List.getElem_mem hi), ?_⟩
        obtain ⟨a, b, _, h5, _⟩ := hw.path.split (List.mem_append_left _ (List.getElem_mem hi))
        exact hp.path h5
      refine L_two (cnt_two (r1 j hj') (r1 _ hl) h1 h3 fun q => ?_)
      have := (List.getElem_inj hw.nodup).mp q
      omega

/-! ### ordered knots -/
theorem addAll_mem (L : Int → Bool) : ∀ (xs fd : List Int) (z : Int), z ∈ addAll L xs fd ↔ z ∈ fd ∨ (z ∈ xs ∧ L z = true) := by
  intro xs
  induction xs with
  | nil => intro fd z; simp [addAll]
  | cons x xs ih =>
    intro fd z
    simp only [addAll]
    rw [ih]
    by_cases h : x ∈ fd
    · simp only [List.contains_eq_mem, h, decide_true, Bool.not_true, Bool.false_and, Bool.false_eq_true, if_false, List.mem_cons]
      constructor
      · rintro (h1 | ⟨h1, h2⟩)
        · exact .inl h1
        · exact .inr ⟨.inr h1, h2⟩
      · rintro (h1 | ⟨h1 | h1, h2⟩)
        · exact .inl h1
        · subst h1; exact .inl h
        · exact .inr ⟨h1, h2⟩
    · cases hL : L x with
      | false =>
        simp only [Bool.and_false, Bool.false_eq_true, if_false, List.mem_cons]
        constructor
        · rintro (h1 | ⟨h1, h2⟩)
          · exact .inl h1
          · exact .inr ⟨.inr h1, h2⟩
        · rintro (h1 | ⟨h1 | h1, h2⟩)
          · exact .inl h1
          · subst h1; rw [hL] at h2; cases h2
          · exact .inr ⟨h1, h2⟩
      | true =>
        simp only [List.contains_eq_mem, h, decide_false, Bool.not_false, Bool.and_true, if_true, List.mem_append, List.mem_singleton, List.mem_cons, List.not_mem_nil, or_false]
        constructor
        · rintro ((h1 | h1) | ⟨h1, h2⟩)
          · exact .inl h1
          · subst h1; exact .inr ⟨.inl rfl, hL⟩
          · exact .inr ⟨.inr h1, h2⟩
        · rintro (h1 | ⟨h1 | h1, h2⟩)
          · exact .inl (.inl h1)
          · exact .inl (.inr h1)
          · exact .inr ⟨h1, h2⟩
theorem addAll_nodup (L : Int → Bool) : ∀ (xs fd : List Int), fd.Nodup → (addAll L xs fd).Nodup := by
  intro xs
  induction xs with
  | nil => intro fd h; exact h
  | cons x xs ih =>
    intro fd h
    refine ih _ ?_
    by_cases hx : x ∈ fd
    · simp only [List.contains_eq_mem, hx, decide_true, Bool.not_true, Bool.false_and, Bool.false_eq_true, if_false]
      exact h
    · cases hL : L x with
      | false => simpa using h
      | true =>
        simp only [List.contains_eq_mem, hx, decide_false, Bool.not_false, Bool.and_true, if_true]
        rw [List.nodup_append]
        exact ⟨h, by simp, fun a ha b hb => by simp at hb; subst hb; exact fun e => hx (e ▸ ha)⟩
theorem addAll_same (L : Int → Bool) : ∀ (xs fd : List Int), (∀ z ∈ xs, L z = true → z ∈ fd) → addAll L xs fd = fd := by
  intro xs
  induction xs with
  | nil => intro fd _; rfl
  | cons x xs ih =>
    intro fd h
    have hx : (!fd.contains x && L x) = false := by
      cases hL : L x with
      | false => simp
      | true => simp [h x (List.mem_cons_self ..) hL]
    simp only [addAll, hx, Bool.false_eq_true, if_false]
    exact ih fd fun z hz => h z (List.mem_cons_of_mem _ hz)
theorem addAll_append (L : Int → Bool) : ∀ (xs ys fd : List Int), addAll L (xs ++ ys) fd = addAll L ys (addAll L xs fd) := by
  intro xs
  induction xs with
  | nil => intro ys fd; rfl
  | cons x xs ih =>
    intro ys fd
    simp only [List.cons_append, addAll]
    exact ih _ _
/-- closed under knots to come -/
def KClosed (f : Fn) (L : Int → Bool) (fd : List Int) : Prop := ∀ y ∈ fd, ∀ l z, Path f y l z → L z = true → z ∈ fd
theorem ord_go {K L : Int → Bool} {p e : Int} {w fd : List Int} (hw : IsWay f p w e) (hKL : ∀ y ∈ w ++ [e], K y = L y) (he : L e = true) (hc : KClosed f L fd) (n : Nat) :
    ∀ (b a : List Int) (x : Int), w = a ++ b → Path f x b e → b.length < n → ordGo f K n (addAll L a fd) x = some (addAll L (b ++ [e]) (addAll L a fd)) := by
  induction n with
  | zero => intro b a x _ _ h; exact absurd h (Nat.not_lt_zero _)
  | succ n ih =>
    intro b a x hb hp hn
    cases hp with
    | nil =>
      unfold ordGo
      simp only [List.append_nil] at hb
      subst hb
      by_cases h1 : e ∈ addAll L w fd
      · rw [if_pos h1]
        simp [addAll, h1]
      · rw [if_neg h1]
        have hx : e ∉ w := fun h => h1 ((addAll_mem L w fd e).mpr (.inr ⟨h, he⟩))
        have h2 : f e = none := hw.stop.resolve_right hx
        simp only [h2, hKL e (by simp), he, if_true, List.nil_append, addAll, List.contains_eq_mem, h1, decide_false, Bool.not_false, Bool.and_true]
    | @cons _ q _ b h1 h2 =>
      unfold ordGo
      have hxa : x ∉ a := fun h => by
        have := hw.nodup
        rw [hb, List.nodup_append] at this
        exact this.2.2 x h x (List.mem_cons_self ..) rfl
      by_cases h3 : x ∈ addAll L a fd
      · rw [if_pos h3]
        have h4 : x ∈ fd := by
          rcases (addAll_mem L a fd x).mp h3 with h | ⟨h, _⟩
          · exact h
          · exact absurd h hxa
        rw [addAll_same L (x :: b ++ [e]) (addAll L a fd)]
        intro z hz hLz
        refine (addAll_mem L a fd z).mpr (.inl ?_)
        obtain ⟨l, m, _, h5, _⟩ := (Path.cons h1 h2).split hz
        exact hc x h4 l z h5 hLz
      · rw [if_neg h3]
        simp only [h1]
        have hxw : x ∈ w := by rw [hb]; simp
        have key : (if K x = true then addAll L a fd ++ [x] else addAll L a fd) = addAll L (a ++ [x]) fd := by
          rw [addAll_append, hKL x (List.mem_append_left _ hxw)]
          simp [addAll, h3]
        rw [key, ih b (a ++ [x]) q (by rw [hb]; simp) h2 (by simp only [List.length_cons] at hn; omega)]
        rw [← addAll_append, ← addAll_append]
        simp
theorem kclosed_way {L : Int → Bool} {p e : Int} {w fd : List Int} (hw : IsWay f p w e) (hc : KClosed f L fd) : KClosed f L (addAll L (w ++ [e]) fd) := by
  intro y hy l z hl hL
  rcases (addAll_mem L _ fd y).mp hy with h | ⟨h, _⟩
  · exact (addAll_mem L _ fd z).mpr (.inl (hc y h l z hl hL))
  · exact (addAll_mem L _ fd z).mpr (.inr ⟨hw.all h hl, hL⟩)
theorem ordAll_eq (hf : FinD f dom) (hN : dom.length < N) (C : Come f heads come) : ∀ (ps fd : List Int), (∀ p ∈ ps, p ∈ heads) → KClosed f (isL f heads come) fd →
    ordAll f (isK f heads come) (N + 1) ps fd = some (lawFound f (isL f heads come) N ps fd) := by
  intro ps
  induction ps with
  | nil => intro fd _ _; rfl
  | cons p ps ih =>
    intro fd hp hc
    have hw := way_is hf hN p
    have hh := hp p (List.mem_cons_self ..)
    have hr : ∀ y ∈ (wayGo f N [] p).1 ++ [(wayGo f N [] p).2], Reached f heads y := fun y hy => by
      obtain ⟨a, b, _, h, _⟩ := hw.path.split hy
      exact ⟨p, hh, a, h⟩
    have h := ord_go (K := isK f heads come) (fd := fd) hw (fun y hy => isK_eq C (hr y hy)) (way_end_L C (Reached.head hh) (L_head hh) hw) hc (N + 1) (wayGo f N [] p).1 [] p rfl hw.path
      (by have := path_len hf hw.path hw.nodup; omega)
    simp only [addAll] at h
    simp only [ordAll, h, Option.bind_some, lawFound]
    exact ih _ (fun q hq => hp q (List.mem_cons_of_mem _ hq)) (kclosed_way hw hc)
theorem lawFound_mem (hf : FinD f dom) (hN : dom.length < N) {L : Int → Bool} : ∀ (ps fd : List Int) (z : Int), z ∈ lawFound f L N ps fd ↔ z ∈ fd ∨ (Reached f ps z ∧ L z = true) := by
  intro ps
  induction ps with
  | nil => intro fd z; simp [lawFound, Reached]
  | cons p ps ih =>
    intro fd z
    have hw := way_is hf hN p
    simp only [lawFound]
    rw [ih, addAll_mem]
    constructor
    · rintro ((h | ⟨h, hL⟩) | ⟨⟨q, hq, l, hl⟩, hL⟩)
      · exact .inl h
      · obtain ⟨a, b, _, h1, _⟩ := hw.path.split h
        exact .inr ⟨⟨p, List.mem_cons_self .., a, h1⟩, hL⟩
      · exact .inr ⟨⟨q, List.mem_cons_of_mem _ hq, l, hl⟩, hL⟩
    · rintro (h | ⟨⟨q, hq, l, hl⟩, hL⟩)
      · exact .inl (.inl h)
      · rcases List.mem_cons.mp hq with rfl | hq
        · exact .inl (.inr ⟨hw.all hw.start hl, hL⟩)
        · exact .inr ⟨⟨q, hq, l, hl⟩, hL⟩
theorem lawFound_nodup {L : Int → Bool} : ∀ (ps fd : List Int), fd.Nodup → (lawFound f L N ps fd).Nodup := by
  intro ps
  induction ps with
  | nil => intro fd h; exact h
  | cons p ps ih => intro fd h; exact ih _ (addAll_nodup L _ _ h)
end

end M7
end

section -- M2
set_option linter.all false
set_option autoImplicit false
namespace M7
variable {f : Fn} {heads come dom : List Int} {N : Nat}
/-! ### stretches -/
/-- the stretch from the knot k: k itself, then no knots, then the knot e -/
structure Str (f : Fn) (L : Int → Bool) (k : Int) (l : List Int) (e : Int) : Prop where
  path : Path f k (k :: l) e
  inner : ∀ y ∈ l, L y = false
  stop : L e = true
theorem strGo_path {K : Int → Bool} (n : Nat) : ∀ (b e : Int) (l cs : List Int), Path f b l e → (∀ y ∈ l, K y = false) → K e = true → l.length < n → strGo f K n cs b = some (cs ++ l, e) := by
  induction n with
  | zero => intro b e l cs _ _ _ h; exact absurd h (Nat.not_lt_zero _)
  | succ n ih =>
    intro b e l cs hp hl he hn
    unfold strGo
    cases hp with
    | nil => simp [he]
    | @cons _ q _ l h1 h2 =>
      rw [hl b (List.mem_cons_self ..)]
      simp only [Bool.false_eq_true, if_false, h1]
      rw [ih q e l (cs ++ [b]) h2 (fun y hy => hl y (List.mem_cons_of_mem _ hy)) he (by simp only [List.length_cons] at hn; omega)]
      simp
theorem lineGo_path {ks : List Int} (n : Nat) : ∀ (b e : Int) (l cs : List Int), Path f b l e → (∀ y ∈ l, y ∉ ks) → e ∈ ks → l.length ≤ n → lineGo f ks n cs b = some (cs ++ l, e) := by
  induction n with
  | zero =>
    intro b e l cs hp _ _ h
    have : l = [] := List.length_eq_zero_iff.mp (by omega)
    subst this
    cases hp
    simp [lineGo]
  | succ n ih =>
    intro b e l cs hp hl he hn
    unfold lineGo
    cases hp with
    | nil => simp [he]
    | @cons _ q _ l h1 h2 =>
      rw [if_neg (hl b (List.mem_cons_self ..))]
      simp only [h1]
      rw [ih q e l (cs ++ [b]) h2 (fun y hy => hl y (List.mem_cons_of_mem _ hy)) he (by simp only [List.length_cons] at hn; omega)]
      simp
theorem first_true (L : Int → Bool) : ∀ (xs : List Int), (∃ x ∈ xs, L x = true) → ∃ l e r, xs = l ++ e :: r ∧ (∀ y ∈ l, L y = false) ∧ L e = true := by
  intro xs
  induction xs with
  | nil => rintro ⟨x, hx, _⟩; cases hx
  | cons x xs ih =>
    rintro ⟨y, hy, hL⟩
    cases hx : L x with
    | true => exact ⟨[], x, xs, rfl, by simp, hx⟩
    | false =>
      rcases List.mem_cons.mp hy with rfl | hy
      · rw [hx] at hL; cases hL
      · obtain ⟨l, e, r, rfl, h1, h2⟩ := ih ⟨y, hy, hL⟩
        exact ⟨x :: l, e, r, rfl, fun z hz => by
          rcases List.mem_cons.mp hz with rfl | hz
          · exact hx
          · exact h1 z hz, h2⟩
theorem Path.prefix {p e z : Int} : ∀ {l a b : List Int}, Path f p l e → l ++ [e] = a ++ z :: b → Path f p a z := by
  intro l
  induction l generalizing p with
  | nil =>
    intro a b h h2
    cases h
    cases a with
    | nil =>
      simp at h2
      rw [← h2.1]
      exact .nil _
    | cons x a => simp at h2
  | cons x l ih =>
    intro a b h h2
    cases h with
    | @cons _ q _ _ h3 h4 =>
      cases a with
      | nil =>
        simp at h2
        rw [← h2.1]
        exact .nil _
      | cons y a =>
        simp at h2
        obtain ⟨rfl, h5⟩ := h2
        exact .cons h3 (ih h4 (by simpa using h5))
/-- each reached cell knot has its stretch, of at most as many cells as there are -/
theorem str_ex (hf : FinD f dom) (hN : dom.length < N) (C : Come f heads come) {k b : Int} (hr : Reached f heads k) (hL : isL f heads come k = true) (hk : f k = some b) :
    ∃ l e, Str f (isL f heads come) k l e ∧ l.length < dom.length := by
  have hw := way_is hf hN k
  have he := way_end_L C hr hL hw
  obtain ⟨hp, hn, _⟩ := id hw
  have hlen := path_len hf hp hn
  generalize (wayGo f N [] k).1 = w at *
  generalize (wayGo f N [] k).2 = e at *
  cases hp with
  | nil => 
    rcases hw.stop with h | h
    · rw [hk] at h; cases h
    · cases h
  | @cons _ q _ w h1 h2 =>
    obtain ⟨l, z, r, h3, h4, h5⟩ := first_true (isL f heads come) (w ++ [e]) ⟨e, by simp, he⟩
    refine ⟨l, z, ⟨.cons h1 (h2.prefix h3), h4, h5⟩, ?_⟩
    have := congrArg List.length h3
    simp only [List.length_append, List.length_cons, List.length_nil] at this hlen
    omega
theorem Str.stretch {K L : Int → Bool} {k e : Int} {l : List Int} (h : Str f L k l e) (hK : ∀ y, y ∈ l ++ [e] → K y = L y) (hl : l.length < N) : stretch f K N k = some (k :: l, e) := by
  obtain ⟨hp, h1, h2⟩ := h
  cases hp with
  | @cons _ q _ _ h3 h4 =>
    unfold M7.stretch
    rw [h3]
    simp only [Option.bind_some]
    rw [strGo_path N q e l [k] h4 (fun y hy => by rw [hK y (by simp [hy])]; exact h1 y hy) (by rw [hK e (by simp)]; exact h2) hl]
    rfl
theorem Str.line {L : Int → Bool} {k e : Int} {l ks : List Int} (h : Str f L k l e) (hK : ∀ y, y ∈ l ++ [e] → (y ∈ ks ↔ L y = true)) {n : Nat} (hl : l.length ≤ n) : (f k).bind (lineGo f ks n [k]) = some (k :: l, e) := by
  obtain ⟨hp, h1, h2⟩ := h
  cases hp with
  | @cons _ q _ _ h3 h4 =>
    rw [h3]
    simp only [Option.bind_some]
    rw [lineGo_path n q e l [k] h4 (fun y hy hm => by have := (hK y (by simp [hy])).mp hm; rw [h1 y hy] at this; cases this) ((hK e (by simp)).mpr h2) hl]
    rfl
theorem Str.reached {L : Int → Bool} {k e : Int} {l : List Int} (h : Str f L k l e) (hr : Reached f heads k) : ∀ y ∈ (k :: l) ++ [e], Reached f heads y := fun y hy => by
  obtain ⟨a, b, _, h1, _⟩ := h.path.split hy
  exact hr.path h1
theorem Str.cell {L : Int → Bool} {k e : Int} {l : List Int} (h : Str f L k l e) : ∀ y ∈ k :: l, ∃ q, f y = some q := h.path.some_of
/-- a cell lies in one stretch only, at one place -/
theorem Str.uniq (C : Come f heads come) {k e k' e' : Int} {l l' : List Int} (h : Str f (isL f heads come) k l e) (h' : Str f (isL f heads come) k' l' e') (hk : Reached f heads k) (hk' : Reached f heads k')
    (hL : isL f heads come k = true) (hL' : isL f heads come k' = true) : ∀ (i j : Nat) (x : Int), (k :: l)[i]? = some x → (k' :: l')[j]? = some x → i = j ∧ k = k' := by
  intro i
  induction i with
  | zero =>
    intro j x h1 h2
    simp at h1
    subst h1
    cases j with
    | zero => simp at h2; exact ⟨rfl, h2.symm⟩
    | succ j =>
      have := h'.inner k (List.mem_of_getElem? (by simpa using h2))
      rw [hL] at this
      cases this
  | succ i ih =>
    intro j x h1 h2
    have hx : isL f heads come x = false := h.inner x (List.mem_of_getElem? (by simpa using h1))
    cases j with
    | zero =>
      simp at h2
      subst h2
      rw [hL'] at hx
      cases hx
    | succ j =>
      have hi : i < (k :: l).length := by have := (List.getElem?_eq_some_iff.mp h1).1; omega
      have hj : j < (k' :: l').length := by have := (List.getElem?_eq_some_iff.mp h2).1; omega
      obtain ⟨y, h3, h4⟩ := h.path.next i (k :: l)[i] (by simp [hi])
      obtain ⟨z, h5, h6⟩ := h'.path.next j (k' :: l')[j] (by simp [hj])
      have ey : y = x := by
        rw [List.getElem?_append_left (by exact (List.getElem?_eq_some_iff.mp h1).1), h1] at h4
        exact (Option.some.inj h4).symm
      have ez : z = x := by
        rw [List.getElem?_append_left (by exact (List.getElem?_eq_some_iff.mp h2).1), h2] at h6
        exact (Option.some.inj h6).symm
      subst ey
      subst ez
      have m1 : (k :: l)[i] ∈ come := (C.mem _).mpr ⟨⟨_, h3⟩, h.reached hk _ (List.mem_append_left _ (List.getElem_mem hi))⟩
      have m2 : (k' :: l')[j] ∈ come := (C.mem _).mpr ⟨⟨_, h5⟩, h'.reached hk' _ (List.mem_append_left _ (List.getElem_mem hj))⟩
      have e2 := cnt_one C.nodup m1 m2 h3 h5 (L_not hx).2.2
      obtain ⟨h7, h8⟩ := ih j _ (List.getElem?_eq_getElem hi) (by rw [e2]; exact List.getElem?_eq_getElem hj)
      exact ⟨by omega, h8⟩
/-- a whole: the knots F with their stretches S -/
structure Whole (f : Fn) (heads come F : List Int) (S : Int → List Int × Int) : Prop where
  C : Come f heads come
  knot : ∀ z, z ∈ F ↔ Reached f heads z ∧ isL f heads come z = true
  nodup : F.Nodup
  str : ∀ k ∈ F, ∀ b, f k = some b → ∃ l, (S k).1 = k :: l ∧ Str f (isL f heads come) k l (S k).2
variable {F : List Int} {S : Int → List Int × Int}
theorem Whole.cover (W : Whole f heads come F S) {x : Int} (hx : x ∈ come) : ∃ k ∈ F, (∃ b, f k = some b) ∧ x ∈ (S k).1 := by
  obtain ⟨⟨q, hq⟩, p, hp, l, hl⟩ := (W.C.mem x).mp hx
  have key : ∀ (l : List Int) (x : Int), Path f p l x → ∀ q, f x = some q → ∃ k ∈ F, (∃ b, f k = some b) ∧ x ∈ (S k).1 := by
    intro l
    induction hn : l.length generalizing l with
    | zero =>
      intro x hl q hq
      have : l = [] := List.length_eq_zero_iff.mp hn
      subst this
      cases hl
      have hF : p ∈ F := (W.knot p).mpr ⟨Reached.head hp, L_head hp⟩
      obtain ⟨m, h1, h2⟩ := W.str p hF q hq
      exact ⟨p, hF, ⟨q, hq⟩, by rw [h1]; exact List.mem_cons_self ..⟩
    | succ n ih =>
      intro x hl q hq
      rcases hl.last with ⟨h1, _⟩ | ⟨a, c, rfl, h3, h4⟩
      · subst h1; simp at hn
      · obtain ⟨k, hk, ⟨b, hb⟩, hc⟩ := ih a (by simp at hn; exact hn) c h3 x h4
        cases hL : isL f heads come x with
        | true =>
          have hF : x ∈ F := (W.knot x).mpr ⟨⟨p, hp, _, hl⟩, hL⟩
          obtain ⟨m, h1, h2⟩ := W.str x hF q hq
          exact ⟨x, hF, ⟨q, hq⟩, by rw [h1]; exact List.mem_cons_self ..⟩
        | false =>
          refine ⟨k, hk, ⟨b, hb⟩, ?_⟩
          obtain ⟨m, h1, h2⟩ := W.str k hk b hb
          rw [h1] at hc ⊢
          obtain ⟨i, hi, e⟩ := List.mem_iff_getElem.mp hc
          obtain ⟨y, h5, h6⟩ := h2.path.next i c (by rw [← e]; simp [hi])
          rw [h4] at h5
          cases h5
          rcases List.mem_append.mp (List.mem_of_getElem? h6) with h | h
          · exact h
          · have : x = (S k).2 := by simpa using h
            rw [this, h2.stop] at hL
            cases hL
  exact key l x hl q hq
theorem Whole.sub (W : Whole f heads come F S) {k x : Int} (hk : k ∈ F) {b : Int} (hb : f k = some b) (hx : x ∈ (S k).1) : x ∈ come := by
  obtain ⟨m, h1, h2⟩ := W.str k hk b hb
  rw [h1] at hx
  exact (W.C.mem x).mpr ⟨h2.cell x hx, h2.reached ((W.knot k).mp hk).1 x (List.mem_append_left _ hx)⟩
theorem Whole.at_one (W : Whole f heads come F S) {k k' x : Int} {i j : Nat} (hk : k ∈ F) (hk' : k' ∈ F) {b b' : Int} (hb : f k = some b) (hb' : f k' = some b') (h1 : (S k).1[i]? = some x) (h2 : (S k').1[j]? = some x) : i = j ∧ k = k' := by
  obtain ⟨m, e1, s1⟩ := W.str k hk b hb
  obtain ⟨m', e2, s2⟩ := W.str k' hk' b' hb'
  rw [e1] at h1
  rw [e2] at h2
  exact s1.uniq W.C s2 ((W.knot k).mp hk).1 ((W.knot k').mp hk').1 ((W.knot k).mp hk).2 ((W.knot k').mp hk').2 i j x h1 h2
theorem Whole.flat_nodup (W : Whole f heads come F S) : ∀ (G : List Int), G.Nodup → (∀ k ∈ G, k ∈ F ∧ ∃ b, f k = some b) → (G.flatMap fun k => (S k).1).Nodup := by
  intro G
  induction G with
  | nil => intro _ _; exact .nil
  | cons k G ih =>
    intro hn hG
    rw [List.flatMap_cons, List.nodup_append]
    obtain ⟨hk, b, hb⟩ := hG k (List.mem_cons_self ..)
    refine ⟨?_, ih (List.nodup_cons.mp hn).2 fun z hz => hG z (List.mem_cons_of_mem _ hz), ?_⟩
    · rw [List.nodup_iff_pairwise_ne, List.pairwise_iff_getElem]
      intro i j hi hj hij e
      have := (W.at_one hk hk hb hb (List.getElem?_eq_getElem hi) (by rw [e]; exact List.getElem?_eq_getElem hj)).1
      omega
    · intro x hx y hy e
      subst e
      obtain ⟨k', hk', hx'⟩ := List.mem_flatMap.mp hy
      obtain ⟨h1, b', hb'⟩ := hG k' (List.mem_cons_of_mem _ hk')
      obtain ⟨i, hi, e1⟩ := List.mem_iff_getElem.mp hx
      obtain ⟨j, hj, e2⟩ := List.mem_iff_getElem.mp hx'
      have := (W.at_one (x := x) (i := i) (j := j) hk h1 hb hb' (by rw [List.getElem?_eq_getElem hi, e1]) (by rw [List.getElem?_eq_getElem hj, e2])).2
      exact (List.nodup_cons.mp hn).1 (this ▸ hk')
def cellKnots (f : Fn) (F : List Int) : List Int := F.filter fun k => (f k).isSome
theorem mem_cellKnots {k : Int} : k ∈ cellKnots f F ↔ k ∈ F ∧ ∃ b, f k = some b := by
  unfold cellKnots
  rw [List.mem_filter]
  constructor
  · rintro ⟨h1, h2⟩
    obtain ⟨b, hb⟩ := Option.isSome_iff_exists.mp h2
    exact ⟨h1, b, hb⟩
  · rintro ⟨h1, b, hb⟩
    exact ⟨h1, by rw [hb]; rfl⟩
theorem sum_len (G : List Int) (T : Int → List Int) : (G.flatMap T).length = (G.map fun k => (T k).length).sum := by
  induction G with
  | nil => rfl
  | cons k G ih => simp [List.flatMap_cons, ih]
theorem Whole.sum (W : Whole f heads come F S) : ((cellKnots f F).map fun k => (S k).1.length).sum = come.length := by
  rw [← sum_len (cellKnots f F) fun k => (S k).1]
  have n1 := W.flat_nodup (cellKnots f F) (W.nodup.filter _) fun k hk => mem_cellKnots.mp hk
  refine Nat.le_antisymm (len_le_of_sub n1 fun x hx => ?_) (len_le_of_sub W.C.nodup fun x hx => ?_)
  · obtain ⟨k, hk, h⟩ := List.mem_flatMap.mp hx
    obtain ⟨h1, b, hb⟩ := mem_cellKnots.mp hk
    exact W.sub h1 hb h
  · obtain ⟨k, hk, hb, h⟩ := W.cover hx
    exact List.mem_flatMap.mpr ⟨k, mem_cellKnots.mpr ⟨hk, hb⟩, h⟩
theorem Whole.goal (W : Whole f heads come F S) {k b : Int} (hk : k ∈ F) (hb : f k = some b) : (S k).2 ∈ F := by
  obtain ⟨m, e1, s1⟩ := W.str k hk b hb
  exact (W.knot _).mpr ⟨s1.reached ((W.knot k).mp hk).1 _ (by simp), s1.stop⟩
/-- a nameless cell knot: at least two stretches lead to it -/
theorem Whole.two (W : Whole f heads come F S) {z q : Int} (hz : z ∈ F) (hq : f z = some q) (hh : z ∉ heads) : ∃ k k', k ≠ k' ∧ k ∈ cellKnots f F ∧ k' ∈ cellKnots f F ∧ (S k).2 = z ∧ (S k').2 = z := by
  have hL := ((W.knot z).mp hz).2
  have h2 : 1 < cnt f come z := by
    simp only [isL, hq, Option.isNone_some, Bool.false_or, Bool.or_eq_true, decide_eq_true_eq] at hL
    rcases hL with h | h
    · exact absurd (by simpa using h) hh
    · exact h
  have key : ∀ c ∈ come, f c = some z → ∃ k ∈ cellKnots f F, (S k).2 = z ∧ (S k).1.getLast? = some c := by
    intro c hc hcz
    obtain ⟨k, hk, ⟨b, hb⟩, hm⟩ := W.cover hc
    obtain ⟨m, e1, s1⟩ := W.str k hk b hb
    rw [e1] at hm
    obtain ⟨i, hi, e⟩ := List.mem_iff_getElem.mp hm
    obtain ⟨y, h5, h6⟩ := s1.path.next i c (by rw [← e]; simp [hi])
    rw [hcz] at h5
    cases h5
    refine ⟨k, mem_cellKnots.mpr ⟨hk, b, hb⟩, ?_⟩
    by_cases hl : i + 1 < (k :: m).length
    · rw [List.getElem?_append_left hl] at h6
      have : isL f heads come z = false := s1.inner z (List.mem_of_getElem? (by simpa using h6))
      rw [hL] at this
      cases this
    · have hl' : i + 1 = (k :: m).length := by omega
      rw [hl', List.getElem?_append_right (Nat.le_refl _)] at h6
      simp at h6
      refine ⟨h6, ?_⟩
      rw [e1, List.getLast?_eq_getElem?, ← hl']
      simp only [Nat.add_sub_cancel]
      rw [List.getElem?_eq_getElem hi, e]
  have split2 : ∃ c d, c ≠ d ∧ c ∈ come ∧ d ∈ come ∧ f c = some z ∧ f d = some z := by
    obtain ⟨c, hc, hcz⟩ := cnt_pos_iff.mp (show 0 < cnt f come z by omega)
    have h3 : cnt f come z = cnt f (c :: come.erase c) z := (List.perm_cons_erase hc).countP_eq _
    have h4 : 0 < cnt f (come.erase c) z := by
      rw [h3] at h2
      unfold cnt at h2 ⊢
      rw [List.countP_cons_of_pos (by simp [hcz])] at h2
      omega
    obtain ⟨d, hd, hdz⟩ := cnt_pos_iff.mp h4
    exact ⟨c, d, fun e => by
      subst e
      exact (List.Nodup.not_mem_erase W.C.nodup) hd, hc, List.mem_of_mem_erase hd, hcz, hdz⟩
  obtain ⟨c, d, hne, hc, hd, hcz, hdz⟩ := split2
  obtain ⟨k, h1, h3, h4⟩ := key c hc hcz
  obtain ⟨k', h5, h6, h7⟩ := key d hd hdz
  exact ⟨k, k', fun e => by
    subst e
    rw [h4] at h7
    exact hne (Option.some.inj h7), h1, h5, h3, h6⟩
end M7
end

section -- M3
set_option linter.all false
set_option autoImplicit false
namespace M7
variable {f : Fn} {heads come dom F : List Int} {N : Nat} {S : Int → List Int × Int}
/-! ### plans -/
inductive Kd where
  | dot | bang | to (k : Nat)
  deriving DecidableEq, Repr
abbrev Kn := List Nat × Kd
abbrev Names := List (Nat × Int)
abbrev Cells := List (Int × Int)
def lettersAt (names : Names) (p : Int) : List Nat := (names.filter fun q => q.2 == p).map (·.1)
def knOf (f : Fn) (names : Names) (F : List Int) (S : Int → List Int × Int) (p : Int) : Kn :=
  (lettersAt names p, if (f p).isSome then .to (F.idxOf (S p).2) else if p = 0 then .dot else .bang)
def lensOf (f : Fn) (F : List Int) (S : Int → List Int × Int) : List Nat := (cellKnots f F).map fun k => (S k).1.length
/-! ### the order of knots, told by the knots alone -/
def chGo (f : Fn) (S : Int → List Int × Int) : Nat → List Int → Int → Option (List Int)
  | 0, _, _ => none
  | n + 1, fd, k => if k ∈ fd then some fd else match f k with
    | none => some (fd ++ [k])
    | some _ => chGo f S n (fd ++ [k]) (S k).2
def chAll (f : Fn) (S : Int → List Int × Int) (N : Nat) : List Int → List Int → Option (List Int)
  | [], fd => some fd
  | p :: ps, fd => (chGo f S N fd p).bind (chAll f S N ps)
theorem chGo_mono {r : List Int} : ∀ (n m : Nat) (fd : List Int) (k : Int), chGo f S n fd k = some r → n ≤ m → chGo f S m fd k = some r := by
  intro n
  induction n with
  | zero => intro m fd k h; simp [chGo] at h
  | succ n ih =>
    intro m fd k h hm
    cases m with
    | zero => omega
    | succ m =>
      unfold chGo at h ⊢
      by_cases hk : k ∈ fd
      · simpa [hk] using h
      · rw [if_neg hk] at h ⊢
        cases hf : f k with
        | none => simpa [hf] using h
        | some b =>
          simp only [hf] at h ⊢
          exact ih m _ _ h (by omega)
theorem ord_skip {K : Int → Bool} {r : List Int} : ∀ (l : List Int) (m : Nat) (fd : List Int) (b e : Int), Path f b l e → (∀ y ∈ l, K y = false) → (∀ y ∈ l, y ∉ fd) → ordGo f K m fd b = some r →
    ∃ m', m' ≤ m ∧ ordGo f K m' fd e = some r := by
  intro l
  induction l with
  | nil => intro m fd b e hp _ _ h; cases hp; exact ⟨m, Nat.le_refl _, h⟩
  | cons y l ih =>
    intro m fd b e hp hK hn h
    cases hp with
    | @cons _ q _ _ h1 h2 =>
      cases m with
      | zero => simp [ordGo] at h
      | succ m =>
        unfold ordGo at h
        rw [if_neg (hn y (List.mem_cons_self ..))] at h
        simp only [h1, hK y (List.mem_cons_self ..), Bool.false_eq_true, if_false] at h
        obtain ⟨m', h3, h4⟩ := ih m fd q e h2 (fun y hy => hK y (List.mem_cons_of_mem _ hy)) (fun y hy => hn y (List.mem_cons_of_mem _ hy)) h
        exact ⟨m', by omega, h4⟩
theorem ch_of_ord (W : Whole f heads come F S) {K : Int → Bool} (hK : ∀ y, Reached f heads y → K y = isL f heads come y) {r : List Int} : ∀ (n : Nat) (fd : List Int) (k : Int), k ∈ F → (∀ y ∈ fd, y ∈ F) →
    ordGo f K n fd k = some r → chGo f S n fd k = some r ∧ ∀ y ∈ r, y ∈ F := by
  intro n
  induction n using Nat.strongRecOn with
  | _ n ih =>
    intro fd k hk hfd h
    cases n with
    | zero => simp [ordGo] at h
    | succ n =>
      unfold ordGo at h
      unfold chGo
      by_cases h1 : k ∈ fd
      · rw [if_pos h1] at h ⊢
        cases h
        exact ⟨rfl, hfd⟩
      · rw [if_neg h1] at h ⊢
        obtain ⟨hr, hL⟩ := (W.knot k).mp hk
        rw [hK k hr, hL] at h
        have hfd2 : ∀ y ∈ fd ++ [k], y ∈ F := fun y hy => by
          rcases List.mem_append.mp hy with hy | hy
          · exact hfd y hy
          · rw [List.mem_singleton.mp hy]; exact hk
        cases hf : f k with
        | none =>
          simp only [hf, if_true] at h ⊢
          cases h
          exact ⟨rfl, hfd2⟩
        | some b =>
          simp only [hf, if_true] at h ⊢
          obtain ⟨l, e1, s1⟩ := W.str k hk b hf
          have hp := s1.path
          cases hp with
          | @cons _ q _ _ h3 h4 =>
            rw [hf] at h3
            cases h3
            have hin : ∀ y ∈ l, K y = false := fun y hy => by rw [hK y (s1.reached hr y (by simp [hy]))]; exact s1.inner y hy
            have hnot : ∀ y ∈ l, y ∉ fd ++ [k] := fun y hy hm => by
              have h5 := ((W.knot y).mp (hfd2 y hm)).2
              rw [s1.inner y hy] at h5
              cases h5
            obtain ⟨m', h6, h7⟩ := ord_skip l n (fd ++ [k]) b _ h4 hin hnot h
            obtain ⟨h8, h9⟩ := ih m' (by omega) (fd ++ [k]) _ (W.goal hk hf) hfd2 h7
            exact ⟨chGo_mono m' n _ _ h8 h6, h9⟩
theorem chAll_of_ord (W : Whole f heads come F S) {K : Int → Bool} (hK : ∀ y, Reached f heads y → K y = isL f heads come y) {r : List Int} : ∀ (ps fd : List Int), (∀ p ∈ ps, p ∈ heads) → (∀ y ∈ fd, y ∈ F) →
    ordAll f K N ps fd = some r → chAll f S N ps fd = some r := by
  intro ps
  induction ps with
  | nil => intro fd _ _ h; exact h
  | cons p ps ih =>
    intro fd hp hfd h
    simp only [ordAll, Option.bind_eq_some_iff] at h
    obtain ⟨fd', h1, h2⟩ := h
    have hh := hp p (List.mem_cons_self ..)
    obtain ⟨h3, h4⟩ := ch_of_ord W hK N fd p ((W.knot p).mpr ⟨Reached.head hh, L_head hh⟩) hfd h1
    simp only [chAll, h3, Option.bind_some]
    exact ih fd' (fun q hq => hp q (List.mem_cons_of_mem _ hq)) h4 h2
/-! ### the same by indexes: knot_order -/
def goalAt (kns : List Kn) (i : Nat) : Option Kd := (kns[i]?).map (·.2)
def koGo (kns : List Kn) : Nat → List Nat → Nat → Option (List Nat)
  | 0, _, _ => none
  | n + 1, od, i => if i ∈ od then some od else match goalAt kns i with
    | none => none
    | some (.to k) => koGo kns n (od ++ [i]) k
    | some _ => some (od ++ [i])
def koAll (kns : List Kn) (N : Nat) : List Nat → List Nat → Option (List Nat)
  | [], od => some od
  | i :: is, od => (koGo kns N od i).bind (koAll kns N is)
theorem idx_inj {x y : Int} (hx : x ∈ F) (hy : y ∈ F) (h : F.idxOf x = F.idxOf y) : x = y := by
  have h1 := List.getElem_idxOf (List.idxOf_lt_length_iff.mpr hx)
  have h2 := List.getElem_idxOf (List.idxOf_lt_length_iff.mpr hy)
  rw [← h1, ← h2]
  congr 1
theorem mem_map_idx {fd : List Int} {k : Int} (hk : k ∈ F) (hfd : ∀ y ∈ fd, y ∈ F) : F.idxOf k ∈ fd.map F.idxOf ↔ k ∈ fd := by
  rw [List.mem_map]
  constructor
  · rintro ⟨y, hy, e⟩
    rw [← idx_inj (hfd y hy) hk e]
    exact hy
  · intro h
    exact ⟨k, h, rfl⟩
theorem goalAt_knots {names : Names} {k : Int} (hk : k ∈ F) : goalAt (F.map (knOf f names F S)) (F.idxOf k) = some (knOf f names F S k).2 := by
  unfold goalAt
  rw [List.getElem?_map, List.getElem?_eq_getElem (List.idxOf_lt_length_iff.mpr hk), List.getElem_idxOf]
  rfl
theorem ko_of_ch (W : Whole f heads come F S) {names : Names} {r : List Int} : ∀ (n : Nat) (fd : List Int) (k : Int), k ∈ F → (∀ y ∈ fd, y ∈ F) → chGo f S n fd k = some r →
    koGo (F.map (knOf f names F S)) n (fd.map F.idxOf) (F.idxOf k) = some (r.map F.idxOf) ∧ ∀ y ∈ r, y ∈ F := by
  intro n
  induction n with
  | zero => intro fd k _ _ h; simp [chGo] at h
  | succ n ih =>
    intro fd k hk hfd h
    unfold chGo at h
    unfold koGo
    by_cases h1 : k ∈ fd
    · rw [if_pos h1] at h
      rw [if_pos ((mem_map_idx hk hfd).mpr h1)]
      cases h
      exact ⟨rfl, hfd⟩
    · rw [if_neg h1] at h
      rw [if_neg fun q => h1 ((mem_map_idx hk hfd).mp q), goalAt_knots hk]
      have hfd2 : ∀ y ∈ fd ++ [k], y ∈ F := fun y hy => by
        rcases List.mem_append.mp hy with hy | hy
        · exact hfd y hy
        · rw [List.mem_singleton.mp hy]; exact hk
      have e2 : fd.map F.idxOf ++ [F.idxOf k] = (fd ++ [k]).map F.idxOf := by simp
      cases hf : f k with
      | none =>
        simp only [hf] at h
        cases h
        refine ⟨?_, hfd2⟩
        unfold knOf
        simp only [hf, Option.isSome_none, Bool.false_eq_true, if_false]
        by_cases h0 : k = 0
        · simp only [h0, if_true]
          simp
        · simp only [h0, if_false]
          simp
      | some b =>
        simp only [hf] at h
        have e3 : (knOf f names F S k).2 = .to (F.idxOf (S k).2) := by
          unfold knOf
          simp [hf]
        rw [e3]
        simp only
        rw [e2]
        exact ih (fd ++ [k]) _ (W.goal hk hf) hfd2 h
theorem koAll_of_ch (W : Whole f heads come F S) {names : Names} {r : List Int} : ∀ (ps fd : List Int), (∀ p ∈ ps, p ∈ F) → (∀ y ∈ fd, y ∈ F) → chAll f S N ps fd = some r →
    koAll (F.map (knOf f names F S)) N (ps.map F.idxOf) (fd.map F.idxOf) = some (r.map F.idxOf) := by
  intro ps
  induction ps with
  | nil => intro fd _ _ h; simp [chAll] at h; subst h; rfl
  | cons p ps ih =>
    intro fd hp hfd h
    simp only [chAll, Option.bind_eq_some_iff] at h
    obtain ⟨fd', h1, h2⟩ := h
    obtain ⟨h3, h4⟩ := ko_of_ch W (names := names) N fd p (hp p (List.mem_cons_self ..)) hfd h1
    simp only [List.map_cons, koAll, h3, Option.bind_some]
    exact ih fd' (fun q hq => hp q (List.mem_cons_of_mem _ hq)) h4 h2
theorem idx_range (hn : F.Nodup) : F.map F.idxOf = List.range F.length := by
  refine List.ext_getElem (by simp) fun i h1 h2 => ?_
  simp only [List.getElem_map, List.getElem_range]
  have hi : i < F.length := by simpa using h1
  have h3 := List.getElem_idxOf (List.idxOf_lt_length_iff.mpr (List.getElem_mem hi))
  exact (List.getElem_inj hn).mp h3
/-! ### letters -/
theorem letters_count (names : Names) : ∀ (G : List Int), G.Nodup → (G.flatMap (lettersAt names)).Perm ((names.filter fun q => G.contains q.2).map (·.1)) := by
  intro G
  induction G with
  | nil => intro _; simp
  | cons g G ih =>
    intro hn
    rw [List.flatMap_cons]
    have h1 := ih (List.nodup_cons.mp hn).2
    have hg := (List.nodup_cons.mp hn).1
    have h2 : ((names.filter fun q => (g :: G).contains q.2)).Perm ((names.filter fun q => q.2 == g) ++ (names.filter fun q => G.contains q.2)) := by
      clear ih h1
      induction names with
      | nil => simp
      | cons q names ih2 =>
        by_cases e : q.2 = g
        · have e2 : q.2 ∉ G := fun h => hg (e ▸ h)
          rw [List.filter_cons_of_pos (by simp [e]), List.filter_cons_of_pos (by simp [e]), List.filter_cons_of_neg (by simp [e2])]
          exact List.Perm.cons _ ih2
        · by_cases e2 : q.2 ∈ G
          · rw [List.filter_cons_of_pos (by simp [e2]), List.filter_cons_of_neg (by simp [e]), List.filter_cons_of_pos (by simp [e2])]
            exact (List.Perm.cons _ ih2).trans (List.perm_middle.symm)
          · rw [List.filter_cons_of_neg (by simp [e, e2]), List.filter_cons_of_neg (by simp [e]), List.filter_cons_of_neg (by simp [e2])]
            exact ih2
    have h3 := h2.map (·.1)
    rw [List.map_append] at h3
    exact (List.Perm.append_left _ h1).trans h3.symm
theorem letters_perm (names : Names) (hn : F.Nodup) (h : ∀ q ∈ names, q.2 ∈ F) : (F.flatMap (lettersAt names)).Perm (names.map (·.1)) := by
  have h1 := letters_count names F hn
  have h2 : (names.filter fun q => F.contains q.2) = names := by
    rw [List.filter_eq_self]
    intro q hq
    simpa using h q hq
  rwa [h2] at h1
end M7
end

section -- M4
set_option linter.all false
set_option autoImplicit false
namespace M7
/-! ### a store's plan -/
def arr (cells : Cells) : Fn := fun p => cells.lookup p
theorem lookup_mem {cells : Cells} {p q : Int} (h : cells.lookup p = some q) : (p, q) ∈ cells := by
  induction cells with
  | nil => simp at h
  | cons c cells ih =>
    obtain ⟨a, b⟩ := c
    rw [List.lookup_cons] at h
    cases e : (p == a) with
    | true =>
      rw [e] at h
      simp at h e
      subst h e
      exact List.mem_cons_self ..
    | false =>
      rw [e] at h
      exact List.mem_cons_of_mem _ (ih h)
theorem mem_lookup {cells : Cells} {p q : Int} (hn : (cells.map (·.1)).Nodup) (h : (p, q) ∈ cells) : cells.lookup p = some q := by
  induction cells with
  | nil => cases h
  | cons c cells ih =>
    obtain ⟨a, b⟩ := c
    rw [List.lookup_cons]
    rw [List.map_cons, List.nodup_cons] at hn
    rcases List.mem_cons.mp h with h | h
    · cases h
      simp
    · have hne : p ≠ a := fun e => hn.1 (e ▸ List.mem_map.mpr ⟨_, h, rfl⟩)
      have : (p == a) = false := by simpa using hne
      rw [this]
      exact ih hn.2 h
theorem lookup_none {cells : Cells} {p : Int} (h : ∀ q, (p, q) ∉ cells) : cells.lookup p = none := by
  cases e : cells.lookup p with
  | none => rfl
  | some q => exact absurd (lookup_mem e) (h q)
theorem arr_fin (cells : Cells) : FinD (arr cells) (cells.map (·.1)) := fun x q h => List.mem_map.mpr ⟨_, lookup_mem h, rfl⟩
def headsOf (names : Names) : List Int := names.map (·.2)
def comeOf (names : Names) (cells : Cells) : List Int := lawCome (arr cells) (cells.length + 1) (headsOf names) []
def knotK (names : Names) (cells : Cells) : Int → Bool := isK (arr cells) (headsOf names) (comeOf names cells)
def knotL (names : Names) (cells : Cells) : Int → Bool := isL (arr cells) (headsOf names) (comeOf names cells)
def foundOf (names : Names) (cells : Cells) : List Int := lawFound (arr cells) (knotL names cells) (cells.length + 1) (headsOf names) []
def strOf (names : Names) (cells : Cells) (k : Int) : List Int × Int := (stretch (arr cells) (knotK names cells) (cells.length + 1) k).getD ([], 0)
def knsOf (names : Names) (cells : Cells) : List Kn := (foundOf names cells).map (knOf (arr cells) names (foundOf names cells) (strOf names cells))
def lenOf (names : Names) (cells : Cells) : List Nat := lensOf (arr cells) (foundOf names cells) (strOf names cells)
def lostOf (names : Names) (cells : Cells) : Nat := cells.length - (comeOf names cells).length
theorem come_is (names : Names) (cells : Cells) : Come (arr cells) (headsOf names) (comeOf names cells) := come_of (arr_fin cells) (by simp)
theorem come_len (names : Names) (cells : Cells) : (comeOf names cells).length ≤ cells.length := by
  have := len_le_of_sub (m := cells.map (·.1)) (come_is names cells).nodup fun x hx => by
    obtain ⟨⟨q, hq⟩, _⟩ := ((come_is names cells).mem x).mp hx
    exact arr_fin cells x q hq
  simpa using this
theorem found_mem (names : Names) (cells : Cells) (z : Int) : z ∈ foundOf names cells ↔ Reached (arr cells) (headsOf names) z ∧ knotL names cells z = true := by
  unfold foundOf
  rw [lawFound_mem (arr_fin cells) (by simp)]
  simp
theorem str_all (names : Names) (cells : Cells) {k b : Int} (hk : k ∈ foundOf names cells) (hb : arr cells k = some b) :
    ∃ l e, Str (arr cells) (knotL names cells) k l e ∧ l.length < cells.length ∧ stretch (arr cells) (knotK names cells) (cells.length + 1) k = some (k :: l, e) := by
  obtain ⟨hr, hL⟩ := (found_mem names cells k).mp hk
  obtain ⟨l, e, h1, h2⟩ := str_ex (arr_fin cells) (N := cells.length + 1) (by simp) (come_is names cells) hr hL hb
  have h2' : l.length < cells.length := by simpa using h2
  exact ⟨l, e, h1, h2', h1.stretch (fun y hy => isK_eq (come_is names cells) (h1.reached hr y (List.mem_cons_of_mem _ hy))) (by omega)⟩
theorem whole (names : Names) (cells : Cells) : Whole (arr cells) (headsOf names) (comeOf names cells) (foundOf names cells) (strOf names cells) where
  C := come_is names cells
  knot := found_mem names cells
  nodup := lawFound_nodup _ _ .nil
  str := fun k hk b hb => by
    obtain ⟨l, e, h1, _, h2⟩ := str_all names cells hk hb
    refine ⟨l, ?_, ?_⟩
    · unfold strOf; rw [h2]; rfl
    · unfold strOf; rw [h2]; exact h1

/-! ### places renamed -/
section
variable {f g : Fn} {heads : List Int} {φ : Int → Int}
/-- g is f with the places renamed by φ, as far as they are reached -/
structure Ren (f g : Fn) (heads : List Int) (φ : Int → Int) : Prop where
  inj : ∀ x y, Reached f heads x → Reached f heads y → φ x = φ y → x = y
  map : ∀ x, Reached f heads x → g (φ x) = (f x).map φ
variable (R : Ren f g heads φ)
include R
theorem Ren.mem {s : List Int} {p : Int} (hs : ∀ y ∈ s, Reached f heads y) (hp : Reached f heads p) : φ p ∈ s.map φ ↔ p ∈ s := by
  rw [List.mem_map]
  constructor
  · rintro ⟨y, hy, e⟩
    rw [← R.inj y p (hs y hy) hp e]
    exact hy
  · intro h
    exact ⟨p, h, rfl⟩
theorem Ren.some {x q : Int} (hx : Reached f heads x) (h : f x = some q) : g (φ x) = some (φ q) := by rw [R.map x hx, h]; rfl
theorem Ren.none {x : Int} (hx : Reached f heads x) (h : f x = none) : g (φ x) = none := by rw [R.map x hx, h]; rfl
theorem Ren.way (n : Nat) : ∀ (s : List Int) (p : Int), (∀ y ∈ s, Reached f heads y) → Reached f heads p →
    wayGo g n (s.map φ) (φ p) = ((wayGo f n s p).1.map φ, φ (wayGo f n s p).2) := by
  induction n with
  | zero => intro s p _ _; rfl
  | succ n ih =>
    intro s p hs hp
    unfold wayGo
    cases hq : f p with
    | none => simp only [R.none hp hq]
    | some q =>
      simp only [R.some hp hq]
      by_cases hm : p ∈ s
      · rw [if_pos hm, if_pos ((R.mem hs hp).mpr hm)]
      · rw [if_neg hm, if_neg fun h => hm ((R.mem hs hp).mp h)]
        have := ih (s ++ [p]) q (fun y hy => by
          rcases List.mem_append.mp hy with hy | hy
          · exact hs y hy
          · rw [List.mem_singleton.mp hy]; exact hp) (hp.step hq)
        rw [List.map_append] at this
        exact this
theorem way_reached (n : Nat) {p : Int} (hp : Reached f heads p) : (∀ y ∈ (wayGo f n [] p).1, Reached f heads y) ∧ Reached f heads (wayGo f n [] p).2 := by
  have h := wayGo_path (f := f) n [] p p (.nil p)
  refine ⟨fun y hy => ?_, hp.path h⟩
  obtain ⟨a, b, _, h1, _⟩ := h.split (List.mem_append_left _ hy)
  exact hp.path h1
theorem Ren.filt {c w : List Int} (hc : ∀ y ∈ c, Reached f heads y) (hw : ∀ y ∈ w, Reached f heads y) : ((w.map φ).filter fun x => !(c.map φ).contains x) = (w.filter fun x => !c.contains x).map φ := by
  rw [List.filter_map]
  congr 1
  refine List.filter_congr fun x hx => ?_
  have h := R.mem hc (hw x hx)
  show (!(c.map φ).contains (φ x)) = !c.contains x
  rw [List.contains_eq_mem, List.contains_eq_mem, decide_eq_decide.mpr h]
theorem Ren.come (n : Nat) : ∀ (ps c : List Int), (∀ p ∈ ps, Reached f heads p) → (∀ y ∈ c, Reached f heads y) → lawCome g n (ps.map φ) (c.map φ) = (lawCome f n ps c).map φ := by
  intro ps
  induction ps with
  | nil => intro c _ _; rfl
  | cons p ps ih =>
    intro c hp hc
    have hr := way_reached R n (hp p (List.mem_cons_self ..))
    have h1 := R.way n [] p (by simp) (hp p (List.mem_cons_self ..))
    simp only [List.map_nil] at h1
    simp only [List.map_cons, lawCome, h1]
    rw [R.filt hc hr.1, ← List.map_append]
    exact ih _ (fun q hq => hp q (List.mem_cons_of_mem _ hq)) fun y hy => by
      rcases List.mem_append.mp hy with hy | hy
      · exact hc y hy
      · exact hr.1 y (List.mem_filter.mp hy).1
theorem Ren.cnt {come : List Int} (hc : ∀ y ∈ come, Reached f heads y) {x : Int} (hx : Reached f heads x) : cnt g (come.map φ) (φ x) = cnt f come x := by
  unfold M7.cnt
  rw [List.countP_map]
  refine List.countP_congr fun y hy => ?_
  have hr := hc y hy
  cases hq : f y with
  | none => simp [Function.comp, R.none hr hq, hq]
  | some q =>
    simp only [Function.comp, R.some hr hq, hq, beq_iff_eq, Option.some.injEq]
    exact ⟨fun e => R.inj q x (hr.step hq) hx e, fun e => by rw [e]⟩
theorem Ren.isL {come : List Int} (hc : ∀ y ∈ come, Reached f heads y) {x : Int} (hx : Reached f heads x) : isL g (heads.map φ) (come.map φ) (φ x) = isL f heads come x := by
  unfold M7.isL
  rw [R.cnt hc hx, R.map x hx]
  have h := R.mem (s := heads) (fun y hy => Reached.head hy) hx
  have h2 : (heads.map φ).contains (φ x) = heads.contains x := by
    rw [List.contains_eq_mem, List.contains_eq_mem, decide_eq_decide.mpr h]
  rw [h2]
  cases f x <;> rfl
theorem Ren.add {L M : Int → Bool} (hLM : ∀ x, Reached f heads x → M (φ x) = L x) : ∀ (xs fd : List Int), (∀ y ∈ xs, Reached f heads y) → (∀ y ∈ fd, Reached f heads y) → addAll M (xs.map φ) (fd.map φ) = (addAll L xs fd).map φ := by
  intro xs
  induction xs with
  | nil => intro fd _ _; rfl
  | cons x xs ih =>
    intro fd hx hfd
    have hr := hx x (List.mem_cons_self ..)
    have h := R.mem hfd hr
    have h2 : (fd.map φ).contains (φ x) = fd.contains x := by
      rw [List.contains_eq_mem, List.contains_eq_mem, decide_eq_decide.mpr h]
    simp only [List.map_cons, addAll, h2, hLM x hr]
    have key : (if (!fd.contains x && L x) = true then fd.map φ ++ [φ x] else fd.map φ) = (if (!fd.contains x && L x) = true then fd ++ [x] else fd).map φ := by
      split
      · simp
      · rfl
    rw [key]
    refine ih _ (fun y hy => hx y (List.mem_cons_of_mem _ hy)) fun y hy => ?_
    split at hy
    · rcases List.mem_append.mp hy with hy | hy
      · exact hfd y hy
      · rw [List.mem_singleton.mp hy]; exact hr
    · exact hfd y hy
theorem add_reached {L : Int → Bool} {xs fd : List Int} (hx : ∀ y ∈ xs, Reached f heads y) (hfd : ∀ y ∈ fd, Reached f heads y) : ∀ y ∈ addAll L xs fd, Reached f heads y := fun y hy => by
  rcases (addAll_mem L xs fd y).mp hy with h | ⟨h, _⟩
  · exact hfd y h
  · exact hx y h
theorem Ren.found {L M : Int → Bool} (hLM : ∀ x, Reached f heads x → M (φ x) = L x) (n : Nat) : ∀ (ps fd : List Int), (∀ p ∈ ps, Reached f heads p) → (∀ y ∈ fd, Reached f heads y) →
    lawFound g M n (ps.map φ) (fd.map φ) = (lawFound f L n ps fd).map φ := by
  intro ps
  induction ps with
  | nil => intro fd _ _; rfl
  | cons p ps ih =>
    intro fd hp hfd
    have hr := way_reached R n (hp p (List.mem_cons_self ..))
    have h1 := R.way n [] p (by simp) (hp p (List.mem_cons_self ..))
    simp only [List.map_nil] at h1
    have hxs : ∀ y ∈ (wayGo f n [] p).1 ++ [(wayGo f n [] p).2], Reached f heads y := fun y hy => by
      rcases List.mem_append.mp hy with hy | hy
      · exact hr.1 y hy
      · rw [List.mem_singleton.mp hy]; exact hr.2
    have h2 := R.add hLM _ fd hxs hfd
    rw [List.map_append] at h2
    simp only [List.map_cons, lawFound, h1]
    rw [show [φ (wayGo f n [] p).2] = [(wayGo f n [] p).2].map φ from rfl, h2]
    exact ih _ (fun q hq => hp q (List.mem_cons_of_mem _ hq)) (add_reached R hxs hfd)
theorem Ren.path {p e : Int} {l : List Int} (h : Path f p l e) (hp : Reached f heads p) : Path g (φ p) (l.map φ) (φ e) := by
  induction h with
  | nil p => exact .nil _
  | cons h1 h2 ih => exact .cons (R.some hp h1) (ih (hp.step h1))
theorem Ren.str {L M : Int → Bool} (hLM : ∀ x, Reached f heads x → M (φ x) = L x) {k e : Int} {l : List Int} (h : Str f L k l e) (hk : Reached f heads k) : Str g M (φ k) (l.map φ) (φ e) where
  path := R.path h.path hk
  inner := fun y hy => by
    obtain ⟨z, hz, rfl⟩ := List.mem_map.mp hy
    rw [hLM z (h.reached hk z (by simp [hz]))]
    exact h.inner z hz
  stop := by
    rw [hLM _ (h.reached hk _ (by simp))]
    exact h.stop
end
/-- two stores, one with renamed places: the same plan -/
theorem plan_ren {names : Names} {cells cells' : Cells} {φ : Int → Int} (R : Ren (arr cells) (arr cells') (headsOf names) φ) (hlen : cells'.length = cells.length)
    (h0 : ∀ x ∈ foundOf names cells, arr cells x = none → (φ x = 0 ↔ x = 0)) :
    knsOf (names.map fun q => (q.1, φ q.2)) cells' = knsOf names cells ∧ lenOf (names.map fun q => (q.1, φ q.2)) cells' = lenOf names cells ∧ lostOf (names.map fun q => (q.1, φ q.2)) cells' = lostOf names cells := by
  have W := whole names cells
  have hheads : headsOf (names.map fun q => (q.1, φ q.2)) = (headsOf names).map φ := by simp [headsOf]
  have hps : ∀ p ∈ headsOf names, Reached (arr cells) (headsOf names) p := fun p hp => Reached.head hp
  have hcome : comeOf (names.map fun q => (q.1, φ q.2)) cells' = (comeOf names cells).map φ := by
    unfold comeOf
    rw [hheads, hlen]
    exact R.come _ _ [] hps (by simp)
  have hcr : ∀ y ∈ comeOf names cells, Reached (arr cells) (headsOf names) y := fun y hy => ((W.C.mem y).mp hy).2
  have hL : ∀ x, Reached (arr cells) (headsOf names) x → knotL (names.map fun q => (q.1, φ q.2)) cells' (φ x) = knotL names cells x := fun x hx => by
    unfold knotL
    rw [hheads, hcome]
    exact R.isL hcr hx
  have hfound : foundOf (names.map fun q => (q.1, φ q.2)) cells' = (foundOf names cells).map φ := by
    unfold foundOf
    rw [hheads, hlen]
    exact R.found hL _ _ [] hps (by simp)
  have hfr : ∀ y ∈ foundOf names cells, Reached (arr cells) (headsOf names) y := fun y hy => ((W.knot y).mp hy).1
  have hstr : ∀ k ∈ foundOf names cells, ∀ b, arr cells k = some b → strOf (names.map fun q => (q.1, φ q.2)) cells' (φ k) = ((strOf names cells k).1.map φ, φ (strOf names cells k).2) := fun k hk b hb => by
    obtain ⟨l, e, h1, h2, h3⟩ := str_all names cells hk hb
    have h4 := R.str hL h1 (hfr k hk)
    have h5 : φ k ∈ foundOf (names.map fun q => (q.1, φ q.2)) cells' := by rw [hfound]; exact List.mem_map.mpr ⟨k, hk, rfl⟩
    have hK : ∀ y, y ∈ l.map φ ++ [φ e] → knotK (names.map fun q => (q.1, φ q.2)) cells' y = knotL (names.map fun q => (q.1, φ q.2)) cells' y := fun y hy =>
      isK_eq (come_is _ cells') (h4.reached ((found_mem _ _ _).mp h5).1 y (List.mem_cons_of_mem _ hy))
    have h6 := h4.stretch (N := cells'.length + 1) hK (by rw [List.length_map, hlen]; omega)
    unfold strOf
    rw [h6, h3]
    rfl
  have hidx : ∀ x ∈ foundOf names cells, ((foundOf names cells).map φ).idxOf (φ x) = (foundOf names cells).idxOf x := fun x hx => by
    have key : ∀ (G : List Int), (∀ y ∈ G, Reached (arr cells) (headsOf names) y) → (G.map φ).idxOf (φ x) = G.idxOf x := by
      intro G
      induction G with
      | nil => intro _; rfl
      | cons y G ih =>
        intro hG
        rw [List.map_cons, List.idxOf_cons, List.idxOf_cons, ih fun z hz => hG z (List.mem_cons_of_mem _ hz)]
        by_cases e : y = x
        · subst e
          rw [beq_self_eq_true, beq_self_eq_true]
        · have e2 : ¬ φ y = φ x := fun q => e (R.inj y x (hG y (List.mem_cons_self ..)) (hfr x hx) q)
          rw [beq_eq_false_iff_ne.mpr e, beq_eq_false_iff_ne.mpr e2]
    exact key _ hfr
  refine ⟨?_, ?_, ?_⟩
  · unfold knsOf
    rw [hfound, List.map_map]
    refine List.map_congr_left fun x hx => ?_
    have hr := hfr x hx
    have hlet : lettersAt (names.map fun q => (q.1, φ q.2)) (φ x) = lettersAt names x := by
      unfold lettersAt
      rw [List.filter_map, List.map_map]
      have : (names.filter ((fun q => q.2 == φ x) ∘ fun q => (q.1, φ q.2))) = names.filter fun q => q.2 == x := by
        refine List.filter_congr fun q hq => ?_
        have hq2 : Reached (arr cells) (headsOf names) q.2 := Reached.head (List.mem_map.mpr ⟨q, hq, rfl⟩)
        show (φ q.2 == φ x) = (q.2 == x)
        by_cases e : q.2 = x
        · rw [e, beq_self_eq_true, beq_self_eq_true]
        · have e2 : ¬ φ q.2 = φ x := fun z => e (R.inj _ _ hq2 hr z)
          rw [beq_eq_false_iff_ne.mpr e, beq_eq_false_iff_ne.mpr e2]
      rw [this]
      rfl
    simp only [Function.comp, knOf, hlet]
    cases hb : arr cells x with
    | none =>
      rw [R.none hr hb]
      have h1 := h0 x hx hb
      by_cases e : x = 0
      · rw [if_pos e, if_pos (h1.mpr e)]
        rfl
      · have e2 : ¬ φ x = 0 := fun q => e (h1.mp q)
        rw [if_neg e, if_neg e2]
        rfl
    | some b =>
      rw [R.some hr hb, hstr x hx b hb]
      simp only [Option.isSome_some, if_true]
      rw [hidx _ (W.goal hx hb)]
  · unfold lenOf lensOf
    rw [hfound]
    have hck : cellKnots (arr cells') ((foundOf names cells).map φ) = (cellKnots (arr cells) (foundOf names cells)).map φ := by
      unfold cellKnots
      rw [List.filter_map]
      congr 1
      refine List.filter_congr fun x hx => ?_
      simp only [Function.comp, R.map x (hfr x hx), Option.isSome_map]
    rw [hck, List.map_map]
    refine List.map_congr_left fun x hx => ?_
    obtain ⟨h1, b, hb⟩ := mem_cellKnots.mp hx
    simp only [Function.comp, hstr x h1 b hb, List.length_map]
  · unfold lostOf
    rw [hcome, hlen, List.length_map]
end M7
end

section -- M5
set_option linter.all false
set_option autoImplicit false
namespace M7
/-! ### the canonical store -/
section
variable {f : Fn} {heads come F : List Int} {S : Int → List Int × Int} {size : Nat}
/-- all reached cells in the order of the stretches -/
def flat (f : Fn) (S : Int → List Int × Int) (G : List Int) : List Int := (cellKnots f G).flatMap fun k => (S k).1
def bangs (f : Fn) (G : List Int) : List Int := G.filter fun x => (f x).isNone && decide (x ≠ 0)
def phi (f : Fn) (F : List Int) (S : Int → List Int × Int) (size : Nat) (x : Int) : Int :=
  if x ∈ flat f S F then ((flat f S F).idxOf x : Int) + 1 else if x = 0 then 0 else (size : Int) + 1 + ((bangs f F).idxOf x : Int)
theorem flat_mem (W : Whole f heads come F S) (x : Int) : x ∈ flat f S F ↔ x ∈ come := by
  constructor
  · intro h
    obtain ⟨k, hk, h2⟩ := List.mem_flatMap.mp h
    obtain ⟨h1, b, hb⟩ := mem_cellKnots.mp hk
    exact W.sub h1 hb h2
  · intro h
    obtain ⟨k, hk, hb, h2⟩ := W.cover h
    exact List.mem_flatMap.mpr ⟨k, mem_cellKnots.mpr ⟨hk, hb⟩, h2⟩
theorem flat_nodup (W : Whole f heads come F S) : (flat f S F).Nodup := W.flat_nodup _ (W.nodup.filter _) fun k hk => mem_cellKnots.mp hk
theorem flat_len (W : Whole f heads come F S) : (flat f S F).length = come.length :=
  Nat.le_antisymm (len_le_of_sub (flat_nodup W) fun x hx => (flat_mem W x).mp hx) (len_le_of_sub W.C.nodup fun x hx => (flat_mem W x).mpr hx)
theorem phi_cell (W : Whole f heads come F S) {x : Int} (hx : x ∈ come) : phi f F S size x = ((flat f S F).idxOf x : Int) + 1 := by
  unfold phi
  rw [if_pos ((flat_mem W x).mpr hx)]
theorem phi_zero (W : Whole f heads come F S) (h0 : (0 : Int) ∉ come) : phi f F S size 0 = 0 := by
  unfold phi
  rw [if_neg fun h => h0 ((flat_mem W 0).mp h), if_pos rfl]
theorem phi_bang (W : Whole f heads come F S) {x : Int} (hx : x ∉ come) (h0 : x ≠ 0) : phi f F S size x = (size : Int) + 1 + ((bangs f F).idxOf x : Int) := by
  unfold phi
  rw [if_neg fun h => hx ((flat_mem W x).mp h), if_neg h0]
/-- what is reached and no cell is a knot -/
theorem end_knot (W : Whole f heads come F S) {x : Int} (hr : Reached f heads x) (hx : x ∉ come) : x ∈ F ∧ f x = none := by
  have h1 : f x = none := by
    cases h : f x with
    | none => rfl
    | some q => exact absurd ((W.C.mem x).mpr ⟨⟨q, h⟩, hr⟩) hx
  exact ⟨(W.knot x).mpr ⟨hr, L_none h1⟩, h1⟩
theorem bang_mem (W : Whole f heads come F S) {x : Int} (hr : Reached f heads x) (hx : x ∉ come) (h0 : x ≠ 0) : x ∈ bangs f F := by
  obtain ⟨h1, h2⟩ := end_knot W hr hx
  unfold bangs
  rw [List.mem_filter]
  exact ⟨h1, by simp [h2, h0]⟩
theorem idx_inj' {G : List Int} {x y : Int} (hx : x ∈ G) (hy : y ∈ G) (h : G.idxOf x = G.idxOf y) : x = y := idx_inj hx hy h
theorem phi_inj (W : Whole f heads come F S) (hs : come.length ≤ size) (h0 : (0 : Int) ∉ come) {x y : Int} (hx : Reached f heads x) (hy : Reached f heads y) (h : phi f F S size x = phi f F S size y) : x = y := by
  have lt : ∀ z, z ∈ come → (flat f S F).idxOf z < come.length := fun z hz => by
    rw [← flat_len W]
    exact List.idxOf_lt_length_iff.mpr ((flat_mem W z).mpr hz)
  by_cases h1 : x ∈ come
  · rw [phi_cell W h1] at h
    have l1 := lt x h1
    by_cases h2 : y ∈ come
    · rw [phi_cell W h2] at h
      exact idx_inj' ((flat_mem W x).mpr h1) ((flat_mem W y).mpr h2) (by omega)
    · by_cases h3 : y = 0
      · subst h3
        rw [phi_zero W h0] at h
        omega
      · rw [phi_bang W h2 h3] at h
        omega
  · by_cases h4 : x = 0
    · subst h4
      rw [phi_zero W h0] at h
      by_cases h2 : y ∈ come
      · rw [phi_cell W h2] at h
        omega
      · by_cases h3 : y = 0
        · exact h3.symm
        · rw [phi_bang W h2 h3] at h
          omega
    · rw [phi_bang W h1 h4] at h
      by_cases h2 : y ∈ come
      · rw [phi_cell W h2] at h
        have l2 := lt y h2
        omega
      · by_cases h3 : y = 0
        · subst h3
          rw [phi_zero W h0] at h
          omega
        · rw [phi_bang W h2 h3] at h
          exact idx_inj' (bang_mem W hx h1 h4) (bang_mem W hy h2 h3) (by omega)
/-- its cells: the reached ones, then the lost ones -/
def canonCells (f : Fn) (F : List Int) (S : Int → List Int × Int) (size lost : Nat) : Cells :=
  (flat f S F).map (fun x => (phi f F S size x, phi f F S size ((f x).getD 0))) ++ (List.range lost).map fun (i : Nat) => (((flat f S F).length : Int) + 1 + (i : Int), 0)
theorem range_keys (f : Fn) (F : List Int) (S : Int → List Int × Int) (size lost : Nat) (hn : (flat f S F).Nodup) : (canonCells f F S size lost).map (·.1) = (List.range ((flat f S F).length + lost)).map fun (i : Nat) => (i : Int) + 1 := by
  unfold canonCells
  refine List.ext_getElem (by simp) fun i h1 h2 => ?_
  simp only [List.map_append, List.map_map, List.getElem_map, List.getElem_range]
  by_cases hi : i < (flat f S F).length
  · rw [List.getElem_append_left (by simpa using hi)]
    simp only [List.getElem_map, Function.comp]
    unfold phi
    rw [if_pos (List.getElem_mem hi)]
    have h3 : (flat f S F).idxOf (flat f S F)[i] = i := by
      have h4 := List.getElem_idxOf (List.idxOf_lt_length_iff.mpr (List.getElem_mem hi))
      exact (List.getElem_inj hn).mp h4
    rw [h3]
  · rw [List.getElem_append_right (by simpa using hi)]
    simp only [List.getElem_map, Function.comp, List.getElem_range, List.length_map]
    omega
theorem keys_nodup (n : Nat) : ((List.range n).map fun (i : Nat) => (i : Int) + 1).Nodup := by
  rw [List.nodup_iff_pairwise_ne, List.pairwise_map]
  refine List.Pairwise.imp_of_mem ?_ (List.nodup_iff_pairwise_ne.mp List.nodup_range)
  intro a b _ _ h e
  exact h (by omega)
theorem canon_len (W : Whole f heads come F S) (lost : Nat) : (canonCells f F S size lost).length = come.length + lost := by
  simp [canonCells, flat_len W]
theorem canon_ren {cells : Cells} (W : Whole f heads come F S) (hs : come.length ≤ size) (h0 : (0 : Int) ∉ come) {lost : Nat} (hl : come.length + lost = size) :
    Ren f (arr (canonCells f F S size lost)) heads (phi f F S size) where
  inj := fun x y hx hy h => phi_inj W hs h0 hx hy h
  map := fun x hx => by
    have hk := range_keys f F S size lost (flat_nodup W)
    by_cases h1 : x ∈ come
    · obtain ⟨⟨q, hq⟩, _⟩ := (W.C.mem x).mp h1
      rw [hq]
      refine mem_lookup (by rw [hk]; exact keys_nodup _) ?_
      unfold canonCells
      exact List.mem_append_left _ (List.mem_map.mpr ⟨x, (flat_mem W x).mpr h1, by rw [hq]; rfl⟩)
    · obtain ⟨_, h2⟩ := end_knot W hx h1
      rw [h2]
      refine lookup_none fun q hq => ?_
      have h3 : phi f F S size x ∈ (canonCells f F S size lost).map (·.1) := List.mem_map.mpr ⟨_, hq, rfl⟩
      rw [hk, flat_len W] at h3
      obtain ⟨i, hi, e⟩ := List.mem_map.mp h3
      have hi' := List.mem_range.mp hi
      by_cases h4 : x = 0
      · subst h4
        rw [phi_zero W h0] at e
        omega
      · rw [phi_bang W h1 h4] at e
        omega
end
/-- the canonical store of the plan of a store has that plan -/
theorem canon_plan (names : Names) (cells : Cells) (h0 : ∀ q, (0, q) ∉ cells) :
    let φ := phi (arr cells) (foundOf names cells) (strOf names cells) cells.length
    let cc := canonCells (arr cells) (foundOf names cells) (strOf names cells) cells.length (lostOf names cells)
    let nn : Names := names.map fun q => (q.1, φ q.2)
    knsOf nn cc = knsOf names cells ∧ lenOf nn cc = lenOf names cells ∧ lostOf nn cc = lostOf names cells ∧ cc.length = cells.length := by
  intro φ cc nn
  have W := whole names cells
  have hl := come_len names cells
  have hz : (0 : Int) ∉ comeOf names cells := fun h => by
    obtain ⟨⟨q, hq⟩, _⟩ := (W.C.mem 0).mp h
    exact h0 q (lookup_mem hq)
  have hsum : (comeOf names cells).length + lostOf names cells = cells.length := by unfold lostOf; omega
  have R := canon_ren (cells := cells) W hl hz hsum
  have hlen : cc.length = cells.length := by
    have := canon_len (size := cells.length) W (lostOf names cells)
    rw [hsum] at this
    exact this
  obtain ⟨h1, h2, h3⟩ := plan_ren R hlen fun x hx hn => by
    have hc : x ∉ comeOf names cells := fun h => by
      obtain ⟨⟨q, hq⟩, _⟩ := (W.C.mem x).mp h
      rw [hn] at hq
      cases hq
    constructor
    · intro e
      by_cases hx0 : x = 0
      · exact hx0
      · rw [phi_bang W hc hx0] at e
        omega
    · intro e
      subst e
      exact phi_zero W hz
  exact ⟨h1, h2, h3, hlen⟩

/-! ### the same, as the program reckons it: from the knots, the lengths and the lost cells alone -/
def startsGo : List Kn → List Nat → Nat → Nat → List Int
  | [], _, _, _ => []
  | (_, .to _) :: ks, ls, c, g => ((c : Int) + 1) :: startsGo ks ls.tail (c + ls.headD 0) g
  | (_, .bang) :: ks, ls, c, g => ((g : Int) + 1) :: startsGo ks ls c (g + 1)
  | (_, .dot) :: ks, ls, c, g => 0 :: startsGo ks ls c g
def cellsGo (st : List Int) : List Kn → List Int → List Nat → Cells
  | (_, .to k) :: ks, ss, ls => ((List.range (ls.headD 0 - 1)).map fun (j : Nat) => (ss.headD 0 + (j : Int), ss.headD 0 + (j : Int) + 1)) ++ [(ss.headD 0 + (ls.headD 0 : Int) - 1, st.getD k 0)] ++ cellsGo st ks ss.tail ls.tail
  | _ :: ks, ss, ls => cellsGo st ks ss.tail ls
  | [], _, _ => []
section
variable {f : Fn} {heads come F : List Int} {S : Int → List Int × Int} {size : Nat} {names : Names}
theorem flat_append (A G : List Int) : flat f S (A ++ G) = flat f S A ++ flat f S G := by
  unfold flat cellKnots
  rw [List.filter_append, List.flatMap_append]
theorem bangs_append (A G : List Int) : bangs f (A ++ G) = bangs f A ++ bangs f G := by
  unfold bangs
  rw [List.filter_append]
theorem flat_one_cell {k b : Int} (hb : f k = some b) : flat f S [k] = (S k).1 := by
  unfold flat cellKnots
  simp [hb]
theorem flat_one_end {k : Int} (hb : f k = none) : flat f S [k] = [] := by
  unfold flat cellKnots
  simp [hb]
theorem lens_cons_cell {k b : Int} {G : List Int} (hb : f k = some b) : lensOf f (k :: G) S = (S k).1.length :: lensOf f G S := by
  unfold lensOf cellKnots
  rw [List.filter_cons_of_pos (by simp [hb])]
  rfl
theorem lens_cons_end {k : Int} {G : List Int} (hb : f k = none) : lensOf f (k :: G) S = lensOf f G S := by
  unfold lensOf cellKnots
  rw [List.filter_cons_of_neg (by simp [hb])]
theorem idx_append {A G : List Int} {x : Int} (h : x ∉ A) : (A ++ G).idxOf x = A.length + G.idxOf x := by
  rw [List.idxOf_append, if_neg h]
  omega
theorem starts_eq (W : Whole f heads come F S) (h0 : (0 : Int) ∉ come) : ∀ (G A : List Int), F = A ++ G →
    startsGo (G.map (knOf f names F S)) (lensOf f G S) (flat f S A).length (size + (bangs f A).length) = G.map (phi f F S size) := by
  intro G
  induction G with
  | nil => intro A _; rfl
  | cons k G ih =>
    intro A hF
    have hk : k ∈ F := by rw [hF]; simp
    have hnd := W.nodup
    have hF2 : F = (A ++ [k]) ++ G := by rw [hF]; simp
    have ih2 := ih (A ++ [k]) hF2
    rw [flat_append, bangs_append] at ih2
    cases hb : f k with
    | some b =>
      have e1 : (knOf f names F S k) = (lettersAt names k, .to (F.idxOf (S k).2)) := by simp [knOf, hb]
      have hbg : bangs f [k] = [] := by simp [bangs, hb]
      rw [flat_one_cell hb, hbg] at ih2
      simp only [List.append_nil, List.length_append] at ih2
      rw [lens_cons_cell hb, List.map_cons, e1, List.map_cons]
      simp only [startsGo, List.tail_cons, List.headD_cons]
      rw [ih2]
      congr 1
      have hc : k ∈ come := (W.C.mem k).mpr ⟨⟨b, hb⟩, ((W.knot k).mp hk).1⟩
      rw [phi_cell W hc]
      obtain ⟨l, h1, _⟩ := W.str k hk b hb
      have h2 : flat f S F = flat f S A ++ ((k :: l) ++ flat f S G) := by
        rw [hF2, flat_append, flat_append, flat_one_cell hb, h1, List.append_assoc]
      have h3 : k ∉ flat f S A := fun h => by
        have := flat_nodup W
        rw [h2, List.nodup_append] at this
        exact this.2.2 k h k (by simp) rfl
      rw [h2, idx_append h3]
      simp
    | none =>
      have hc : k ∉ come := fun h => by
        obtain ⟨⟨q, hq⟩, _⟩ := (W.C.mem k).mp h
        rw [hb] at hq
        cases hq
      rw [flat_one_end hb] at ih2
      simp only [List.append_nil] at ih2
      rw [lens_cons_end hb, List.map_cons, List.map_cons]
      by_cases hz : k = 0
      · have e1 : (knOf f names F S k) = (lettersAt names k, .dot) := by simp [knOf, hb, hz]; rw [← hz]; simp [hb]
        have hbg : bangs f [k] = [] := by simp [bangs, hz]
        rw [hbg] at ih2
        simp only [List.length_append, List.length_nil, Nat.add_zero] at ih2
        rw [e1]
        simp only [startsGo]
        rw [ih2, hz, phi_zero W h0]
      · have e1 : (knOf f names F S k) = (lettersAt names k, .bang) := by simp [knOf, hb, hz]
        have hbg : bangs f [k] = [k] := by simp [bangs, hb, hz]
        rw [hbg] at ih2
        simp only [List.length_append, List.length_singleton] at ih2
        rw [e1]
        simp only [startsGo]
        rw [show size + (bangs f A).length + 1 = size + ((bangs f A).length + 1) by omega, ih2]
        congr 1
        rw [phi_bang W hc hz]
        have h2 : bangs f F = bangs f A ++ (k :: bangs f G) := by
          rw [hF2, bangs_append, bangs_append, hbg, List.append_assoc]
          rfl
        have h3 : k ∉ bangs f A := fun h => by
          have h4 : k ∈ A := (List.mem_filter.mp h).1
          rw [hF, List.nodup_append] at hnd
          exact hnd.2.2 k h4 k (List.mem_cons_self ..) rfl
        rw [h2, idx_append h3]
        simp
        omega
theorem phi_at (W : Whole f heads come F S) {x : Int} {i : Nat} (h : (flat f S F)[i]? = some x) : phi f F S size x = (i : Int) + 1 := by
  obtain ⟨hi, e⟩ := List.getElem?_eq_some_iff.mp h
  have hm : x ∈ flat f S F := by rw [← e]; exact List.getElem_mem hi
  rw [phi_cell W ((flat_mem W x).mp hm)]
  have h4 := List.getElem_idxOf (List.idxOf_lt_length_iff.mpr hm)
  have h5 : (flat f S F).idxOf x = i := (List.getElem_inj (flat_nodup W)).mp (h4.trans e.symm)
  rw [h5]
theorem cells_eq (W : Whole f heads come F S) : ∀ (G A : List Int), F = A ++ G →
    cellsGo (F.map (phi f F S size)) (G.map (knOf f names F S)) (G.map (phi f F S size)) (lensOf f G S) = (flat f S G).map fun x => (phi f F S size x, phi f F S size ((f x).getD 0)) := by
  intro G
  induction G with
  | nil => intro A _; rfl
  | cons k G ih =>
    intro A hF
    have hk : k ∈ F := by rw [hF]; simp
    have hF2 : F = (A ++ [k]) ++ G := by rw [hF]; simp
    have ih2 := ih (A ++ [k]) hF2
    have hsp : flat f S (k :: G) = flat f S [k] ++ flat f S G := by rw [← flat_append]; rfl
    cases hb : f k with
    | none =>
      rw [lens_cons_end hb, hsp, flat_one_end hb, List.nil_append, List.map_cons, List.map_cons, ← ih2]
      have : (knOf f names F S k).2 = .dot ∨ (knOf f names F S k).2 = .bang := by
        unfold knOf
        simp only [hb, Option.isSome_none, Bool.false_eq_true, if_false]
        split
        · exact .inl rfl
        · exact .inr rfl
      generalize knOf f names F S k = kn at this ⊢
      obtain ⟨a, d⟩ := kn
      rcases this with h | h
      · simp only at h; subst h; rfl
      · simp only at h; subst h; rfl
    | some b =>
      obtain ⟨l, h1, s1⟩ := W.str k hk b hb
      have e1 : (knOf f names F S k) = (lettersAt names k, .to (F.idxOf (S k).2)) := by simp [knOf, hb]
      rw [lens_cons_cell hb, hsp, flat_one_cell hb, List.map_cons, List.map_cons, e1]
      simp only [cellsGo, List.tail_cons, List.headD_cons]
      rw [ih2, List.map_append]
      congr 1
      have hflat : flat f S F = flat f S A ++ ((k :: l) ++ flat f S G) := by
        rw [hF2, flat_append, flat_append, flat_one_cell hb, h1, List.append_assoc]
      have hat : ∀ (i : Nat) (x : Int), (k :: l)[i]? = some x → phi f F S size x = ((flat f S A).length : Int) + i + 1 := fun i x hx => by
        have hi := (List.getElem?_eq_some_iff.mp hx).1
        rw [phi_at (i := (flat f S A).length + i) W (by rw [hflat, List.getElem?_append_right (by omega), Nat.add_sub_cancel_left, List.getElem?_append_left hi, hx])]
        omega
      have hst : phi f F S size k = ((flat f S A).length : Int) + 1 := by
        have := hat 0 k rfl
        simpa using this
      have hgoal : (F.map (phi f F S size)).getD (F.idxOf (S k).2) 0 = phi f F S size (S k).2 := by
        have hg := W.goal hk hb
        rw [List.getD_eq_getElem?_getD, List.getElem?_map, List.getElem?_eq_getElem (List.idxOf_lt_length_iff.mpr hg), List.getElem_idxOf]
        rfl
      rw [hgoal, h1, hst]
      refine List.ext_getElem (by simp) fun i i1 i2 => ?_
      have hi : i < (k :: l).length := by simpa using i2
      obtain ⟨y, h5, h6⟩ := s1.path.next i (k :: l)[i] (by simp)
      have hx := hat i (k :: l)[i] (List.getElem?_eq_getElem hi)
      rw [List.getElem_map, hx, h5]
      by_cases hl : i < l.length
      · rw [List.getElem_append_left (by simpa using hl)]
        have h7 : (k :: l)[i + 1]? = some y := by rw [← h6, List.getElem?_append_left (by simpa using hl)]
        have h8 := hat (i + 1) y h7
        simp only [List.getElem_map, List.getElem_range, Option.getD_some]
        rw [h8]
        refine Prod.ext ?_ ?_
        · show _ = _; simp only; omega
        · show _ = _; simp only; omega
      · have hil : i = l.length := by simp at hi; omega
        subst hil
        rw [List.getElem_append_right (by simp)]
        have h7 : y = (S k).2 := by
          rw [List.getElem?_append_right (by simp)] at h6
          simpa using h6.symm
        simp only [List.length_map, List.length_range, List.length_cons, Nat.add_sub_cancel, Nat.sub_self, List.getElem_cons_zero, Option.getD_some]
        rw [h7]
        refine Prod.ext ?_ rfl
        show _ = _
        simp only
        omega
end
end M7
end

section -- Z1
set_option Elab.async false
set_option linter.all false
set_option maxRecDepth 100000
set_option maxHeartbeats 4000000
set_option autoImplicit false
/-! worlds: what is frozen (f) within what stands (h); what a reading evaluates to -/
namespace Z
open PySem PySem.Spec L2 K07
abbrev Exf (a b : Hp) : Prop := ∀ p o, a p = some o → b p = some o
structure Wd where
  f : Hp
  h : Hp
  ok : Exf f h
def JugO (o : HO) : Prop := ∃ a b c : Int, o = .lst [.int a, .int b, .int c] ∧ 0 ≤ a ∧ 0 ≤ b ∧ b < 4294967296 ∧ 0 ≤ c
structure Le (J : Addr → Prop) (a b : Wd) : Prop where
  ef : Exf a.f b.f
  eh : ∀ p o, a.h p = some o → b.h p = some o ∨ (J p ∧ JugO o ∧ ∃ o', b.h p = some o' ∧ JugO o')
  nw : ∀ p o, b.f p = some o → a.f p = some o ∨ a.h p = none
section
variable {J : Addr → Prop} {a b c w w0 w1 w2 w3 : Wd} {l p q : Addr} {o o' u : HO}
theorem Le.rfl : Le J a a := ⟨fun _ _ h => h, fun _ _ h => .inl h, fun _ _ h => .inl h⟩
theorem Le.trans (x : Le J a b) (y : Le J b c) : Le J a c where
  ef := fun p o h => y.ef p o (x.ef p o h)
  eh := fun p o h => by
    rcases x.eh p o h with h1 | ⟨j, h1, o1, h2, h3⟩
    · exact y.eh p o h1
    · rcases y.eh p o1 h2 with h4 | ⟨_, _, o2, h5, h6⟩
      · exact .inr ⟨j, h1, o1, h4, h3⟩
      · exact .inr ⟨j, h1, o2, h5, h6⟩
  nw := fun p o h => by
    rcases y.nw p o h with h1 | h1
    · exact x.nw p o h1
    · right
      cases e : a.h p with
      | none => rfl
      | some u =>
        rcases x.eh p u e with h2 | ⟨_, _, o2, h2, _⟩
        · rw [h1] at h2; cases h2
        · rw [h1] at h2; cases h2
theorem Le.fresh (x : Le J a b) (h : b.h p = none) : a.h p = none := by
  cases e : a.h p with
  | none => rfl
  | some u =>
    rcases x.eh p u e with h2 | ⟨_, _, o2, h2, _⟩
    · rw [h] at h2; cases h2
    · rw [h] at h2; cases h2
theorem Le.any (x : Le (fun _ => False) a b) : Le J a b := ⟨x.ef, fun p o h => (x.eh p o h).elim .inl fun ⟨j, _⟩ => j.elim, x.nw⟩
theorem Le.h0 (x : Le (fun _ => False) a b) : Exf a.h b.h := fun p o h => (x.eh p o h).elim id fun ⟨j, _⟩ => j.elim
theorem Le.hJ (x : Le J a b) (j : ¬ J p) (h : a.h p = some o) : b.h p = some o := (x.eh p o h).elim id fun ⟨j', _⟩ => absurd j' j
theorem Wd.fresh_f (w : Wd) (h : w.h p = none) : w.f p = none := by
  cases e : w.f p with
  | none => rfl
  | some u => rw [w.ok p u e] at h; cases h
theorem exf_upd {H : Hp} (h : H p = none) : Exf H (upd H p o) := fun b u e => by
  rw [upd_ne (ne_of_none e h)]
  exact e
/-- a new thing, frozen at once -/
def Wd.new (w : Wd) (p : Addr) (o : HO) : Wd := ⟨upd w.f p o, upd w.h p o, fun b u e => by
  by_cases hb : b = p
  · subst hb; rw [upd_same] at e ⊢; exact e
  · rw [upd_ne hb] at e ⊢; exact w.ok b u e⟩
theorem Le.new (h : w.h p = none) : Le J w (w.new p o) where
  ef := exf_upd (w.fresh_f h)
  eh := fun b u e => .inl (exf_upd h b u e)
  nw := fun b u e => by
    by_cases hb : b = p
    · subst hb; exact .inr h
    · exact .inl ((upd_ne hb).symm.trans e)
/-- a thing of one's own, made or changed -/
def Wd.put (w : Wd) (p : Addr) (o : HO) (h : w.f p = none) : Wd := ⟨w.f, upd w.h p o, fun b u e => by
  rw [upd_ne (ne_of_none e h)]
  exact w.ok b u e⟩
/-- it is frozen from here on -/
def Wd.pub (w : Wd) (p : Addr) (o : HO) (h : w.h p = some o) : Wd := ⟨upd w.f p o, w.h, fun b u e => by
  by_cases hb : b = p
  · subst hb; rw [upd_same] at e; exact h.trans e
  · rw [upd_ne hb] at e; exact w.ok b u e⟩
structure Own (w : Wd) (l : Addr) (o : HO) : Prop where
  h : w.h l = some o
  f : w.f l = none
theorem Own.le (x : Own a l o) (y : Le J a b) (j : ¬ J l) : Own b l o := ⟨y.hJ j x.h, by
  cases e : b.f l with
  | none => rfl
  | some u =>
    rcases y.nw l u e with h | h
    · rw [x.f] at h; cases h
    · rw [x.h] at h; cases h⟩
theorem Own.le0 (x : Own a l o) (y : Le (fun _ => False) a b) : Own b l o := x.le y id
/-- l is changed to o -/
structure Mt (l : Addr) (o : HO) (a b : Wd) : Prop where
  f : b.f = a.f
  h : b.h = upd a.h l o
theorem Wd.put_mt (h : w.f l = none) : Mt l o w (w.put l o h) := ⟨rfl, rfl⟩
theorem Mt.ef (m : Mt l o a b) : Exf a.f b.f := fun p o h => by rw [m.f]; exact h
theorem Mt.own (m : Mt l o a b) (h : a.f l = none) : Own b l o := ⟨by rw [m.h]; exact upd_same, by rw [m.f]; exact h⟩
theorem Own.mt (x : Own a p u) (m : Mt l o a b) (h : p ≠ l) : Own b p u := ⟨by rw [m.h, upd_ne h]; exact x.h, by rw [m.f]; exact x.f⟩
theorem Le.mt (x : Le J w0 a) (m : Mt l o a b) (h0 : w0.h l = none) (hf : a.f l = none) : Le J w0 b where
  ef := fun p o h => by rw [m.f]; exact x.ef p o h
  eh := fun p u h => by
    have hne : p ≠ l := ne_of_none h h0
    rw [m.h, upd_ne hne]
    exact x.eh p u h
  nw := fun p u h => by rw [m.f] at h; exact x.nw p u h
theorem Le.pub (x : Le J w0 a) (h0 : w0.h l = none) (h : a.h l = some o) : Le J w0 (a.pub l o h) where
  ef := fun p u e => by
    have hne : p ≠ l := fun q => by subst q; rw [w0.ok p u e] at h0; cases h0
    show upd a.f l o p = some u
    rw [upd_ne hne]
    exact x.ef p u e
  eh := x.eh
  nw := fun p u e => by
    by_cases hp : p = l
    · subst hp; exact .inr h0
    · exact x.nw p u ((upd_ne hp).symm.trans e)
theorem pub_ef (h : a.h l = some o) (hf : a.f l = none) : Exf a.f (a.pub l o h).f := exf_upd hf
theorem pub_at (h : a.h l = some o) : (a.pub l o h).f l = some o := upd_same
theorem Own.pub (x : Own a p u) (h : a.h l = some o) (hp : p ≠ l) : Own (a.pub l o h) p u := ⟨x.h, (upd_ne hp).trans x.f⟩
theorem new_at : (w.new p o).f p = some o := upd_same
theorem put_le (h : w.h p = none) : Le J w (w.put p o (w.fresh_f h)) := Le.rfl.mt (Wd.put_mt _) h (w.fresh_f h)
end

/-! ### what values stand for -/
structure Rp where
  r : Hp → V → Prop
  mono : ∀ {f g : Hp} {v : V}, Exf f g → r f v → r g v
def Is (v : V) : Rp := ⟨fun _ x => x = v, fun _ h => h⟩
abbrev RI (i : Int) : Rp := Is (.int i)
abbrev RB (b : Bool) : Rp := Is (.bl b)
abbrev RS (s : Str) : Rp := Is (.str s)
/-- one of many -/
def Some (α : Type) (P : α → Prop) (R : α → Rp) : Rp := ⟨fun f v => ∃ a, P a ∧ (R a).r f v, fun e ⟨a, h, x⟩ => ⟨a, h, (R a).mono e x⟩⟩
section
variable {K : PySem.W.Frag}
theorem sqL_mono {H H' : Hp} {a : Addr} {xs : List V} (e : Exf H H') (h : SqL K H a xs) : SqL K H' a xs := by
  rcases h with (h | ⟨o, h⟩) | h
  · exact .inl (.inl (e _ _ h))
  · exact .inl (.inr ⟨o, e _ _ h⟩)
  · exact .inr h
theorem sqT_mono {H H' : Hp} {a : Addr} {xs : List V} (e : Exf H H') (h : SqT K H a xs) : SqT K H' a xs := by
  rcases h with (h | ⟨o, h⟩) | h
  · exact .inl (.inl (e _ _ h))
  · exact .inl (.inr ⟨o, e _ _ h⟩)
  · exact .inr h
mutual
theorem dp_mono {H H' : Hp} (e : Exf H H') : ∀ (d : PyData) (v : V), Dp K H v d → Dp K H' v d
  | .none, _, h => by cases h; exact .non
  | .bool _, _, h => by cases h; exact .bl _
  | .int _, _, h => by cases h; exact .int _
  | .str _, _, h => by cases h; exact .str _
  | .list ds, _, h => by
    cases h with
    | lst hs ha => exact .lst (sqL_mono e hs) (dps_mono e ds _ ha)
  | .tuple ds, _, h => by
    cases h with
    | tup hs ha => exact .tup (sqT_mono e hs) (dps_mono e ds _ ha)
  | .dict _, _, h => by cases h
theorem dps_mono {H H' : Hp} (e : Exf H H') : ∀ (ds : List PyData) (vs : List V), DpAll K H vs ds → DpAll K H' vs ds
  | [], _, h => by cases h; exact .nil
  | d :: ds, _, h => by
    cases h with
    | cons h1 h2 => exact .cons (dp_mono e d _ h1) (dps_mono e ds _ h2)
end
/-- data -/
def Dat (K : PySem.W.Frag) (d : PyData) : Rp := ⟨fun f v => Dp K f v d, fun e h => dp_mono e _ _ h⟩
/-- a tuple by tuple(..) -/
def TupD (K : PySem.W.Frag) (ds : List PyData) : Rp := ⟨fun f v => ∃ a xs, v = .ref a ∧ Tu f a xs ∧ DpAll K f xs ds, fun e ⟨a, xs, h1, ⟨o, h2, h3⟩, h4⟩ => ⟨a, xs, h1, ⟨o, h2, e _ _ h3⟩, dps_mono e _ _ h4⟩⟩
theorem TupD.dat {f : Hp} {v : V} {ds : List PyData} (h : (TupD K ds).r f v) : (Dat K (.tuple ds)).r f v := by
  obtain ⟨a, xs, rfl, ⟨o, _, h2⟩, h3⟩ := h
  exact Dp.tup (.inl (.inr ⟨o, h2⟩)) h3
/-- a dict that stands -/
def DicR (kvs : List (Key × V)) : Rp := ⟨fun f v => ∃ a, v = .ref a ∧ f a = some (.dK kvs), fun e ⟨a, h1, h2⟩ => ⟨a, h1, e _ _ h2⟩⟩
def AllR (f : Hp) : List Rp → List V → Prop
  | [], [] => True
  | R :: Rs, v :: vs => R.r f v ∧ AllR f Rs vs
  | _, _ => False
theorem AllR.mono {f g : Hp} (e : Exf f g) : ∀ {Rs : List Rp} {vs : List V}, AllR f Rs vs → AllR g Rs vs
  | [], [], h => h
  | R :: Rs, v :: vs, h => ⟨R.mono e h.1, AllR.mono e h.2⟩
  | [], _ :: _, h => h
  | _ :: _, [], h => h
theorem AllR.len {f : Hp} : ∀ {Rs : List Rp} {vs : List V}, AllR f Rs vs → vs.length = Rs.length
  | [], [], _ => rfl
  | R :: Rs, v :: vs, h => congrArg Nat.succ (AllR.len h.2)
  | [], _ :: _, h => h.elim
  | _ :: _, [], h => h.elim
theorem AllR.cons_inv {f : Hp} {R : Rp} {Rs : List Rp} {vs : List V} (h : AllR f (R :: Rs) vs) : ∃ v ws, vs = v :: ws ∧ R.r f v ∧ AllR f Rs ws := by
  cases vs with
  | nil => exact h.elim
  | cons v ws => exact ⟨v, ws, rfl, h.1, h.2⟩
theorem AllR.nil_inv {f : Hp} {vs : List V} (h : AllR f [] vs) : vs = [] := by
  cases vs with
  | nil => rfl
  | cons v ws => exact h.elim
theorem AllR.append {f : Hp} : ∀ {Rs Ss : List Rp} {vs ws : List V}, AllR f Rs vs → AllR f Ss ws → AllR f (Rs ++ Ss) (vs ++ ws)
  | [], _, [], _, _, h => h
  | R :: Rs, _, v :: vs, _, h, h2 => ⟨h.1, AllR.append h.2 h2⟩
  | [], _, _ :: _, _, h, _ => h.elim
  | _ :: _, _, [], _, h, _ => h.elim
theorem AllR.snoc {f : Hp} {R : Rp} {Rs : List Rp} {v : V} {vs : List V} (h : AllR f Rs vs) (h2 : R.r f v) : AllR f (Rs ++ [R]) (vs ++ [v]) := h.append ⟨h2, trivial⟩
theorem AllR.get {f : Hp} : ∀ {Rs : List Rp} {vs : List V} {i : Nat} {R : Rp}, AllR f Rs vs → Rs[i]? = some R → ∃ v, vs[i]? = some v ∧ R.r f v
  | R :: Rs, v :: vs, 0, _, h, e => by simp at e; subst e; exact ⟨v, rfl, h.1⟩
  | R :: Rs, v :: vs, i + 1, S, h, e => by
    obtain ⟨x, h1, h2⟩ := AllR.get (i := i) (R := S) h.2 (by simpa using e)
    exact ⟨x, by simpa using h1, h2⟩
  | [], [], i, _, _, e => by simp at e
  | [], _ :: _, _, _, h, _ => h.elim
  | _ :: _, [], _, _, h, _ => h.elim
theorem AllR.at {f : Hp} : ∀ {Rs : List Rp} {vs : List V} {i : Nat} {v : V}, AllR f Rs vs → vs[i]? = some v → ∃ R, Rs[i]? = some R ∧ R.r f v
  | R :: Rs, v :: vs, 0, _, h, e => by simp at e; subst e; exact ⟨R, rfl, h.1⟩
  | R :: Rs, v :: vs, i + 1, x, h, e => by
    obtain ⟨S, h1, h2⟩ := AllR.at (i := i) (v := x) h.2 (by simpa using e)
    exact ⟨S, by simpa using h1, h2⟩
  | [], [], i, _, _, e => by simp at e
  | [], _ :: _, _, _, h, _ => h.elim
  | _ :: _, [], _, _, h, _ => h.elim
theorem dpAll_of {f : Hp} : ∀ {ds : List PyData} {vs : List V}, AllR f (ds.map (Dat K)) vs → DpAll K f vs ds
  | [], [], _ => .nil
  | d :: ds, v :: vs, h => .cons h.1 (dpAll_of h.2)
  | [], _ :: _, h => h.elim
  | _ :: _, [], h => h.elim
theorem of_dpAll {f : Hp} : ∀ {ds : List PyData} {vs : List V}, DpAll K f vs ds → AllR f (ds.map (Dat K)) vs
  | [], _, h => by cases h; trivial
  | d :: ds, _, h => by
    cases h with
    | cons h1 h2 => exact ⟨h1, of_dpAll h2⟩
/-- a list, a tuple of things -/
def LstR (K : PySem.W.Frag) (Rs : List Rp) : Rp := ⟨fun f v => ∃ a xs, v = .ref a ∧ SqL K f a xs ∧ AllR f Rs xs, fun e ⟨a, xs, h1, h2, h3⟩ => ⟨a, xs, h1, sqL_mono e h2, h3.mono e⟩⟩
def TupR (K : PySem.W.Frag) (Rs : List Rp) : Rp := ⟨fun f v => ∃ a xs, v = .ref a ∧ SqT K f a xs ∧ AllR f Rs xs, fun e ⟨a, xs, h1, h2, h3⟩ => ⟨a, xs, h1, sqT_mono e h2, h3.mono e⟩⟩
theorem lst_dat {f : Hp} {v : V} {ds : List PyData} : (LstR K (ds.map (Dat K))).r f v ↔ (Dat K (.list ds)).r f v := by
  constructor
  · rintro ⟨a, xs, rfl, h1, h2⟩
    exact Dp.lst h1 (dpAll_of h2)
  · intro h
    cases h with
    | lst h1 h2 => exact ⟨_, _, rfl, h1, of_dpAll h2⟩
theorem tup_dat {f : Hp} {v : V} {ds : List PyData} : (TupR K (ds.map (Dat K))).r f v ↔ (Dat K (.tuple ds)).r f v := by
  constructor
  · rintro ⟨a, xs, rfl, h1, h2⟩
    exact Dp.tup h1 (dpAll_of h2)
  · intro h
    cases h with
    | tup h1 h2 => exact ⟨_, _, rfl, h1, of_dpAll h2⟩
theorem dat_int {f : Hp} {v : V} {i : Int} : (Dat K (.int i)).r f v ↔ v = .int i := ⟨fun h => by cases h; rfl, fun h => by subst h; exact Dp.int i⟩
theorem dat_str {f : Hp} {v : V} {i : Str} : (Dat K (.str i)).r f v ↔ v = .str i := ⟨fun h => by cases h; rfl, fun h => by subst h; exact Dp.str i⟩
theorem dat_bl {f : Hp} {v : V} {i : Bool} : (Dat K (.bool i)).r f v ↔ v = .bl i := ⟨fun h => by cases h; rfl, fun h => by subst h; exact Dp.bl i⟩
theorem dat_non {f : Hp} {v : V} : (Dat K .none).r f v ↔ v = .non := ⟨fun h => by cases h; rfl, fun h => by subst h; exact Dp.non⟩
end

/-! ### what a reading evaluates to -/
section
variable (J : Addr → Prop)
def Ev (t : TE) (σ : St) (w : Wd) (R : Rp) : Prop := ∀ w', Le J w w' → ∀ Q : VK, (∀ v w'', Le J w' w'' → R.r w''.f v → Q v w''.h) → t σ w'.h Q
def EvT (t : TT) (σ : St) (w : Wd) (P : Bool → Prop) : Prop := ∀ w', Le J w w' → ∀ Q : Bool → Hp → Prop, (∀ b w'', Le J w' w'' → P b → Q b w''.h) → t σ w'.h Q
abbrev EvB (t : TT) (σ : St) (w : Wd) (b : Bool) : Prop := EvT J t σ w (· = b)
def EvA (t : TA) (σ : St) (w : Wd) (Rs : List Rp) : Prop := ∀ w', Le J w w' → ∀ Q : List V → Hp → Prop, (∀ vs w'', Le J w' w'' → AllR w''.f Rs vs → Q vs w''.h) → t σ w'.h Q
/-- a new thing of one's own -/
def EvN (t : TE) (σ : St) (w : Wd) (Φ : Hp → HO → Prop) : Prop := ∀ w', Le J w w' → ∀ Q : VK, (∀ p o w'', Le J w' w'' → w'.h p = none → Own w'' p o → Φ w''.f o → Q (.ref p) w''.h) → t σ w'.h Q
/-- what a two-place operation answers; a call -/
def Op2 (r : R2) (w : Wd) (Ra Rb R : Rp) : Prop := ∀ x y w', Le J w w' → Ra.r w'.f x → Rb.r w'.f y → ∀ Q : VK, (∀ v w'', Le J w' w'' → R.r w''.f v → Q v w''.h) → r x y w'.h Q
def OpA (r : List V → Hp → VK → Prop) (w : Wd) (Rs : List Rp) (R : Rp) : Prop := ∀ vs w', Le J w w' → AllR w'.f Rs vs → ∀ Q : VK, (∀ v w'', Le J w' w'' → R.r w''.f v → Q v w''.h) → r vs w'.h Q
/-- a promise of a def -/
def Pu (sp : Sp) (w : Wd) (Rs : List Rp) (R : Rp) : Prop := ∀ vs w', Le J w w' → AllR w'.f Rs vs → ∀ Q : VK, (∀ v w'', Le J w' w'' → R.r w''.f v → Q v w''.h) → sp vs w'.h Q E0
end
section
variable {J : Addr → Prop} {σ : St} {w w0 w1 : Wd} {t ta tb tc : TE} {tt tu : TT} {ts : TA} {R Ra Rb Rc : Rp} {Rs : List Rp} {sp : Sp} {r r' : R2} {rl : List V → Hp → VK → Prop}
theorem Ev.le (h : Ev J t σ w R) (e : Le J w w1) : Ev J t σ w1 R := fun w' e' => h w' (e.trans e')
theorem EvT.le {P : Bool → Prop} (h : EvT J tt σ w P) (e : Le J w w1) : EvT J tt σ w1 P := fun w' e' => h w' (e.trans e')
theorem EvA.le (h : EvA J ts σ w Rs) (e : Le J w w1) : EvA J ts σ w1 Rs := fun w' e' => h w' (e.trans e')
theorem Ev.imp (h : Ev J t σ w R) (k : ∀ w' v, Le J w w' → R.r w'.f v → Ra.r w'.f v) : Ev J t σ w Ra := fun w' e Q q => h w' e Q fun v w2 e2 r => q v w2 e2 (k w2 v (e.trans e2) r)
theorem Ev.of {S : Rp} (h : Ev J t σ w R) (e : R = S) : Ev J t σ w S := e ▸ h
theorem ev_var {i : Nat} {v : V} (h : σ[i]? = some (some v)) (r : R.r w.f v) : Ev J (tVar i) σ w R := fun w' e _ q => ⟨v, h, q v w' .rfl (R.mono e.ef r)⟩
theorem ev_is {i : Nat} {v : V} (h : σ[i]? = some (some v)) : Ev J (tVar i) σ w (Is v) := ev_var h rfl
theorem ev_c {v : V} (r : ∀ f, R.r f v) : Ev J (tC v) σ w R := fun w' _ _ q => q v w' .rfl (r _)
theorem ev_cv {v : V} : Ev J (tC v) σ w (Is v) := ev_c fun _ => rfl
theorem ev_op (ha : Ev J ta σ w Ra) (hb : Ev J tb σ w Rb) (hr : Op2 J r w Ra Rb R) : Ev J (tOp r ta tb) σ w R := fun w' e Q q =>
  ha w' e _ fun x w1 e1 r1 => hb w1 (e.trans e1) _ fun y w2 e2 r2 => hr x y w2 ((e.trans e1).trans e2) (Ra.mono e2.ef r1) r2 Q fun v w3 e3 r3 => q v w3 ((e1.trans e2).trans e3) r3
theorem ea_nil : EvA J tNil σ w [] := fun w' _ _ q => q [] w' .rfl trivial
theorem ea_cons (h : Ev J t σ w R) (hr : EvA J ts σ w Rs) : EvA J (tCons t ts) σ w (R :: Rs) := fun w' e _ q =>
  h w' e _ fun x w1 e1 r1 => hr w1 (e.trans e1) _ fun vs w2 e2 r2 => q _ w2 (e1.trans e2) ⟨R.mono e2.ef r1, r2⟩
theorem ev_cb (h : EvA J ts σ w Rs) (hr : OpA J rl w Rs R) : Ev J (tCB rl ts) σ w R := fun w' e Q q => h w' e _ fun vs w1 e1 r1 => hr vs w1 (e.trans e1) r1 Q fun v w2 e2 r2 => q v w2 (e1.trans e2) r2
theorem ev_cl (h : EvA J ts σ w Rs) (hp : Pu J sp w Rs R) : Ev J (tCl sp ts) σ w R := fun w' e Q q => h w' e _ fun vs w1 e1 r1 => by
  show sp (vs ++ []) w1.h Q E0
  rw [List.append_nil]
  exact hp vs w1 (e.trans e1) r1 Q fun v w2 e2 r2 => q v w2 (e1.trans e2) r2
theorem ev_kw {n : Nat} (h : EvA J ts σ w Rs) (hn : Rs.length = n) (hp : Pu J sp w Rs R) : Ev J (tKw n false sp ts) σ w R := fun w' e Q q => h w' e _ fun vs w1 e1 r1 =>
  ⟨by rw [r1.len, hn], hp vs w1 (e.trans e1) r1 Q fun v w2 e2 r2 => q v w2 (e1.trans e2) r2⟩
theorem ev_kw2 (h : EvA J ts σ w [Ra, Rb]) (hp : Pu J sp w [Rb, Ra] R) : Ev J (tKw 2 true sp ts) σ w R := fun w' e Q q => h w' e _ fun vs w1 e1 r1 => by
  obtain ⟨x, ws, rfl, h1, r2⟩ := r1.cons_inv
  obtain ⟨y, ws, rfl, h2, r3⟩ := r2.cons_inv
  cases r3.nil_inv
  exact ⟨rfl, hp [y, x] w1 (e.trans e1) ⟨h2, h1, trivial⟩ Q fun v w2 e2 r2 => q v w2 (e1.trans e2) r2⟩
theorem et_test {b : Bool} (h : Ev J t σ w (RB b)) : EvB J (tTest t) σ w b := fun w' e _ q => h w' e _ fun v w1 e1 r1 => ⟨b, r1, q b w1 e1 rfl⟩
theorem et_b {b : Bool} (h : Ev J t σ w (RB b)) : EvB J (tB t) σ w b := fun w' e _ q => h w' e _ fun v w1 e1 r1 => ⟨b, r1, q b w1 e1 rfl⟩
theorem et_any {P : Bool → Prop} (h : Ev J t σ w (Some Bool P RB)) : EvT J (tTest t) σ w P := fun w' e _ q => h w' e _ fun v w1 e1 ⟨b, p, r1⟩ => ⟨b, r1, q b w1 e1 p⟩
theorem et_yes : EvB J tYes σ w true := fun w' _ _ q => q true w' .rfl rfl
theorem et_not {b c : Bool} (h : EvB J tt σ w b) (e : (!b) = c) : EvB J (tNot tt) σ w c := fun w' e' _ q => h w' e' _ fun k w1 e1 p => q _ w1 e1 (by subst p; exact e)
theorem et_and {a b c : Bool} (h : EvB J tt σ w a) (h2 : a = true → EvB J tu σ w b) (hc : (a && b) = c) : EvB J (tAnd tt tu) σ w c := fun w' e Q q => h w' e _ fun k w1 e1 p => by
  subst p
  subst hc
  cases k with
  | true => exact h2 rfl w1 (e.trans e1) Q fun k2 w2 e2 p2 => q k2 w2 (e1.trans e2) (by subst p2; rfl)
  | false => exact q false w1 e1 rfl
theorem et_or {a b c : Bool} (h : EvB J tt σ w a) (h2 : a = false → EvB J tu σ w b) (hc : (a || b) = c) : EvB J (tOr tt tu) σ w c := fun w' e Q q => h w' e _ fun k w1 e1 p => by
  subst p
  subst hc
  cases k with
  | true => exact q true w1 e1 rfl
  | false => exact h2 rfl w1 (e.trans e1) Q fun k2 w2 e2 p2 => q k2 w2 (e1.trans e2) (by subst p2; rfl)
theorem ev_andV {a b c : Bool} (h : Ev J ta σ w (RB a)) (h2 : a = true → Ev J tb σ w (RB b)) (hc : (a && b) = c) : Ev J (tAndV ta tb) σ w (RB c) := fun w' e Q q => h w' e _ fun k w1 e1 p => by
  subst hc
  refine ⟨a, p, ?_⟩
  cases a with
  | true => exact h2 rfl w1 (e.trans e1) Q fun k2 w2 e2 p2 => q k2 w2 (e1.trans e2) p2
  | false => exact q _ w1 e1 rfl
theorem ev_notV {a c : Bool} (h : Ev J ta σ w (RB a)) (hc : (!a) = c) : Ev J (tNotV ta) σ w (RB c) := fun w' e Q q => h w' e _ fun k w1 e1 p => ⟨a, p, q _ w1 e1 (by subst hc; rfl)⟩
theorem ev_if {P : Bool → Prop} (h : EvT J tt σ w P) (h1 : P true → Ev J ta σ w R) (h2 : P false → Ev J tb σ w R) : Ev J (tIf tt ta tb) σ w R := fun w' e Q q => h w' e _ fun k w1 e1 p => by
  cases k with
  | true => exact h1 p w1 (e.trans e1) Q fun v w2 e2 r2 => q v w2 (e1.trans e2) r2
  | false => exact h2 p w1 (e.trans e1) Q fun v w2 e2 r2 => q v w2 (e1.trans e2) r2
theorem ev_lst {K : PySem.W.Frag} (h : EvA J ts σ w Rs) (hl : Rs.length ≤ 1000) : Ev J (tLst ts) σ w (LstR K Rs) := fun w' e Q q => h w' e _ fun vs w1 e1 r1 =>
  ⟨by rw [r1.len]; exact Nat.le_trans hl (by decide), fun p hp => q (.ref p) (w1.new p (.lst vs)) (e1.trans (Le.new hp)) ⟨p, vs, rfl, .inl (.inl new_at), r1.mono (Le.new (J := J) hp).ef⟩⟩
theorem ev_tup {K : PySem.W.Frag} (h : EvA J ts σ w Rs) (hl : Rs.length ≤ 1000) : Ev J (tTup ts) σ w (TupR K Rs) := fun w' e Q q => h w' e _ fun vs w1 e1 r1 =>
  ⟨by rw [r1.len]; exact Nat.le_trans hl (by decide), fun p hp => q (.ref p) (w1.new p (.tup vs)) (e1.trans (Le.new hp)) ⟨p, vs, rfl, .inl (.inl new_at), r1.mono (Le.new (J := J) hp).ef⟩⟩
theorem en_lst (h : EvA J ts σ w Rs) (hl : Rs.length ≤ 1000) : EvN J (tLst ts) σ w fun f o => ∃ xs, o = .lst xs ∧ AllR f Rs xs := fun w' e Q q => h w' e _ fun vs w1 e1 r1 =>
  ⟨by rw [r1.len]; exact Nat.le_trans hl (by decide), fun p hp => q p (.lst vs) (w1.put p (.lst vs) (w1.fresh_f hp)) (e1.trans (put_le hp)) (e1.fresh hp) (Mt.own (Wd.put_mt _) (w1.fresh_f hp)) ⟨vs, rfl, r1⟩⟩
theorem en_dic : EvN J tDNewK σ w fun _ o => o = .dK [] := fun w' e Q q p hp => q p _ (w'.put p (.dK []) (w'.fresh_f hp)) (put_le hp) hp (Mt.own (Wd.put_mt _) (w'.fresh_f hp)) rfl
end
end Z
end

section -- Z2
set_option Elab.async false
set_option linter.all false
set_option maxRecDepth 100000
set_option maxHeartbeats 4000000
set_option autoImplicit false
namespace Z
open PySem PySem.Spec L2 K07
section
variable {J : Addr → Prop} {σ : St} {w w0 w1 w2 : Wd} {t ta tb tc te : TE} {tt tu : TT} {ts : TA} {R Ra Rb Rc S : Rp} {Rs : List Rp} {td : TE} {ds : List PyData} {sp : Sp} {r r' : R2} {rl : List V → Hp → VK → Prop} {D : Ends} {K : PySem.W.Frag} {sa sb : TS} {g : TG} {i j k m : Nat}
/-! ### statements -/
theorem st_asg (h : Ev J te σ w R) (k : ∀ v w', Le J w w' → R.r w'.f v → D.nx (σ.set i (some v)) w'.h) : tAsg te (gName i) D σ w.h := h w .rfl _ k
theorem st_asgG (h : Ev J te σ w R) (k : ∀ v w', Le J w w' → R.r w'.f v → g v σ w'.h D.nx) : tAsg te g D σ w.h := h w .rfl _ k
theorem st_asgN {Φ : Hp → HO → Prop} (h : EvN J te σ w Φ) (k : ∀ p o w', Le J w w' → w.h p = none → Own w' p o → Φ w'.f o → D.nx (σ.set i (some (.ref p))) w'.h) : tAsg te (gName i) D σ w.h := h w .rfl _ k
theorem st_ret (h : Ev J te σ w R) (k : ∀ v w', Le J w w' → R.r w'.f v → D.rt v w'.h) : tRet te D σ w.h := h w .rfl _ k
theorem st_drop (h : Ev J te σ w R) (k : ∀ v w', Le J w w' → R.r w'.f v → D.nx σ w'.h) : tDrop te D σ w.h := h w .rfl _ k
theorem st_if {P : Bool → Prop} (h : EvT J tt σ w P) (h1 : P true → ∀ w', Le J w w' → sa D σ w'.h) (h2 : P false → ∀ w', Le J w w' → sb D σ w'.h) : tIfS tt sa sb D σ w.h := h w .rfl _ fun b w' e p => by
  cases b with
  | true => exact h1 p w' e
  | false => exact h2 p w' e
theorem st_par (h : ta σ w.h fun x H1 => tb σ H1 fun y H2 => D.nx ((σ.set i (some x)).set j (some y)) H2) : tPar i j (tCons ta (tCons tb tNil)) D σ w.h := by
  have mono : ∀ vs : List V, vs = vs := fun _ => rfl
  show ta σ w.h fun x H1 => tb σ H1 fun y H2 => ∃ v u, [x, y] = [v, u] ∧ D.nx ((σ.set i (some v)).set j (some u)) H2
  have e : (fun (x : V) (H1 : Hp) => tb σ H1 fun y H2 => ∃ v u, [x, y] = [v, u] ∧ D.nx ((σ.set i (some v)).set j (some u)) H2) = fun x H1 => tb σ H1 fun y H2 => D.nx ((σ.set i (some x)).set j (some y)) H2 := by
    funext x H1
    congr 1
    funext y H2
    refine propext ⟨?_, fun h => ⟨x, y, rfl, h⟩⟩
    rintro ⟨v, u, e, h⟩
    cases e
    exact h
  rw [e]
  exact h
theorem st_par3 (h : ta σ w.h fun x H1 => tb σ H1 fun y H2 => tc σ H2 fun z H3 => D.nx (((σ.set i (some x)).set j (some y)).set k (some z)) H3) : tPar3 i j k (tCons ta (tCons tb (tCons tc tNil))) D σ w.h := by
  show ta σ w.h fun x H1 => tb σ H1 fun y H2 => tc σ H2 fun z H3 => ∃ v u s, [x, y, z] = [v, u, s] ∧ D.nx (((σ.set i (some v)).set j (some u)).set k (some s)) H3
  have e : (fun (x : V) (H1 : Hp) => tb σ H1 fun y H2 => tc σ H2 fun z H3 => ∃ v u s, [x, y, z] = [v, u, s] ∧ D.nx (((σ.set i (some v)).set j (some u)).set k (some s)) H3) = fun x H1 => tb σ H1 fun y H2 => tc σ H2 fun z H3 => D.nx (((σ.set i (some x)).set j (some y)).set k (some z)) H3 := by
    funext x H1
    congr 1
    funext y H2
    congr 1
    funext z H3
    refine propext ⟨?_, fun h => ⟨x, y, z, rfl, h⟩⟩
    rintro ⟨v, u, s, e, h⟩
    cases e
    exact h
  rw [e]
  exact h
theorem sqT_h {a : Addr} {xs : List V} (w : Wd) (h : SqT K w.f a xs) : SqT K w.h a xs := sqT_mono w.ok h
theorem sqL_h {a : Addr} {xs : List V} (w : Wd) (h : SqL K w.f a xs) : SqL K w.h a xs := sqL_mono w.ok h
theorem g_two {v : V} {Q : St → Hp → Prop} (h : (TupR K [Ra, Rb]).r w.f v) (q : ∀ x y, Ra.r w.f x → Rb.r w.f y → Q ((σ.set i (some x)).set j (some y)) w.h) :
    gTup K 2 (gCons (gName i) (gCons (gName j) gNil)) v σ w.h Q := by
  obtain ⟨a, xs, rfl, h1, h2⟩ := h
  obtain ⟨x, xs, rfl, hx, h2⟩ := h2.cons_inv
  obtain ⟨y, xs, rfl, hy, h2⟩ := h2.cons_inv
  cases h2.nil_inv
  exact ⟨a, _, rfl, sqT_h w h1, rfl, x, _, rfl, y, _, rfl, rfl, q x y hx hy⟩
theorem g_three {v : V} {Q : St → Hp → Prop} (h : (TupR K [Ra, Rb, Rc]).r w.f v) (q : ∀ x y z, Ra.r w.f x → Rb.r w.f y → Rc.r w.f z → Q (((σ.set i (some x)).set j (some y)).set k (some z)) w.h) :
    gTup K 3 (gCons (gName i) (gCons (gName j) (gCons (gName k) gNil))) v σ w.h Q := by
  obtain ⟨a, xs, rfl, h1, h2⟩ := h
  obtain ⟨x, xs, rfl, hx, h2⟩ := h2.cons_inv
  obtain ⟨y, xs, rfl, hy, h2⟩ := h2.cons_inv
  obtain ⟨z, xs, rfl, hz, h2⟩ := h2.cons_inv
  cases h2.nil_inv
  exact ⟨a, _, rfl, sqT_h w h1, rfl, x, _, rfl, y, _, rfl, z, _, rfl, rfl, q x y z hx hy hz⟩
theorem g_unl3 {v : V} {Q : St → Hp → Prop} (h : (LstR K [Ra, Rb, Rc]).r w.f v) (q : ∀ x y z, Ra.r w.f x → Rb.r w.f y → Rc.r w.f z → Q (((σ.set i (some x)).set j (some y)).set k (some z)) w.h) :
    gUnl K 3 (gCons (gName i) (gCons (gName j) (gCons (gName k) gNil))) v σ w.h Q := by
  obtain ⟨a, xs, rfl, h1, h2⟩ := h
  obtain ⟨x, xs, rfl, hx, h2⟩ := h2.cons_inv
  obtain ⟨y, xs, rfl, hy, h2⟩ := h2.cons_inv
  obtain ⟨z, xs, rfl, hz, h2⟩ := h2.cons_inv
  cases h2.nil_inv
  exact ⟨a, _, rfl, sqL_h w h1, rfl, x, _, rfl, y, _, rfl, z, _, rfl, rfl, q x y z hx hy hz⟩
/-! ### a list, a dict of one's own is changed -/
theorem st_app {l : Addr} {xs : List V} (hl : Own w l (.lst xs)) (hj : ¬ J l) (hv : σ[i]? = some (some (.ref l))) (h : Ev J te σ w R) (hz : xs.length < 100000) (k : ∀ v w1 w2, Le J w w1 → R.r w1.f v → Mt l (.lst (xs ++ [v])) w1 w2 → D.nx σ w2.h) :
    tDrop (tBM K "list" rAppend (tVar i) (tCons te tNil)) D σ w.h :=
  ⟨.ref l, hv, .inl ⟨rfl, xs, .inl (.inl hl.h)⟩, h w .rfl _ fun v w1 e1 r1 => ⟨l, xs, v, rfl, rfl, (hl.le e1 hj).h, Nat.lt_of_lt_of_le hz (by decide), k v w1 (w1.put l _ (hl.le e1 hj).f) e1 r1 (Wd.put_mt _)⟩⟩
theorem st_setD {d : Addr} {kvs : List (Key × V)} {x : Key} (hl : Own w d (.dK kvs)) (hj : ¬ J d) (hv : σ[i]? = some (some (.ref d))) (hk : Ev J ta σ w (Is (kV x))) (h : Ev J te σ w R) (hz : kvs.length < 100000)
    (k : ∀ v w1 w2, Le J w w1 → R.r w1.f v → Mt d (.dK (putK kvs x v)) w1 w2 → D.nx σ w2.h) : sDPut (tVar i) ta te D σ w.h :=
  h w .rfl _ fun v w1 e1 r1 => ⟨.ref d, hv, hk w1 e1 _ fun y w2 e2 r2 => by
    have ho := hl.le (e1.trans e2) hj
    refine ⟨d, upd w2.h d (.dK (putK kvs x v)), rfl, .inl ⟨kvs, x, ho.h, r2, Nat.lt_of_lt_of_le hz (by decide), rfl⟩, ?_⟩
    exact k v w2 (w2.put d _ ho.f) (e1.trans e2) (R.mono e2.ef r1) (Wd.put_mt _)⟩
theorem ev_dgetO {d : Addr} {kvs : List (Key × V)} {x : Key} {v : V} (hl : Own w d (.dK kvs)) (hj : ¬ J d) (hv : σ[i]? = some (some (.ref d))) (hk : Ev J ta σ w (Is (kV x))) (hx : valV kvs x = some v) (hr : R.r w.f v) : Ev J (tDGet (tVar i) ta) σ w R := fun w' e Q q =>
  ⟨.ref d, hv, hk w' e _ fun y w2 e2 r2 => ⟨d, v, rfl, .inl ⟨kvs, x, .inl (hl.le (e.trans e2) hj).h, r2, hx.symm⟩, q v w2 e2 (R.mono (e.trans e2).ef hr)⟩⟩
theorem ev_dinO {d : Addr} {kvs : List (Key × V)} {x : Key} (hl : Own w d (.dK kvs)) (hj : ¬ J d) (hv : σ[i]? = some (some (.ref d))) (hk : Ev J ta σ w (Is (kV x))) : Ev J (tDIn ta (tVar i)) σ w (RB (valV kvs x).isSome) := fun w' e Q q =>
  hk w' e _ fun y w2 e2 r2 => ⟨.ref d, hv, d, _, rfl, .inl ⟨kvs, x, .inl (hl.le (e.trans e2) hj).h, r2, rfl⟩, q _ w2 e2 rfl⟩
theorem ev_dniO {d : Addr} {kvs : List (Key × V)} {x : Key} (hl : Own w d (.dK kvs)) (hj : ¬ J d) (hv : σ[i]? = some (some (.ref d))) (hk : Ev J ta σ w (Is (kV x))) : Ev J (tDNotIn ta (tVar i)) σ w (RB (!(valV kvs x).isSome)) := fun w' e Q q =>
  hk w' e _ fun y w2 e2 r2 => ⟨.ref d, hv, d, _, rfl, .inl ⟨kvs, x, .inl (hl.le (e.trans e2) hj).h, r2, rfl⟩, q _ w2 e2 rfl⟩
theorem ev_dget2O {d : Addr} {kvs : List (Key × V)} {x : Key} {v : V} (hl : Own w d (.dK kvs)) (hj : ¬ J d) (hv : σ[i]? = some (some (.ref d))) (hk : Ev J ta σ w (Is (kV x))) (hz : Ev J tb σ w (Is v)) (hr : R.r w.f ((valV kvs x).getD v)) : Ev J (tDGet2 (tVar i) ta tb) σ w R := fun w' e Q q =>
  ⟨.ref d, hv, d, rfl, .inl ⟨kvs, .inl (hl.le e hj).h⟩, hk w' e _ fun y w2 e2 r2 => hz w2 (e.trans e2) _ fun z w3 e3 r3 => ⟨_, .inl ⟨kvs, x, .inl (hl.le ((e.trans e2).trans e3) hj).h, r2, rfl⟩, by
    cases r3
    exact q _ w3 (e2.trans e3) (R.mono ((e.trans e2).trans e3).ef hr)⟩⟩
theorem ev_dget1O {d : Addr} {kvs : List (Key × V)} {x : Key} (hl : Own w d (.dK kvs)) (hj : ¬ J d) (hv : σ[i]? = some (some (.ref d))) (hk : Ev J ta σ w (Is (kV x))) (hr : R.r w.f ((valV kvs x).getD .non)) : Ev J (tDGet1 (tVar i) ta) σ w R := fun w' e Q q =>
  ⟨.ref d, hv, d, rfl, .inl ⟨kvs, .inl (hl.le e hj).h⟩, hk w' e _ fun y w2 e2 r2 => ⟨_, .inl ⟨kvs, x, .inl (hl.le (e.trans e2) hj).h, r2, rfl⟩, q _ w2 e2 (R.mono (e.trans e2).ef hr)⟩⟩
/-- a dict that is frozen -/
theorem ev_dget {kvs : List (Key × V)} {x : Key} {v : V} (hd : Ev J td σ w (DicR kvs)) (hk : Ev J ta σ w (Is (kV x))) (hx : valV kvs x = some v) (hr : ∀ w', Le J w w' → R.r w'.f v) : Ev J (tDGet td ta) σ w R := fun w' e Q q =>
  hd w' e _ fun dv w1 e1 ⟨d, e2, hd2⟩ => hk w1 (e.trans e1) _ fun y w2 e3 r2 => ⟨d, v, e2, .inl ⟨kvs, x, .inl (w2.ok _ _ (e3.ef _ _ hd2)), r2, hx.symm⟩, q v w2 (e1.trans e3) (hr w2 ((e.trans e1).trans e3))⟩
theorem ev_din {kvs : List (Key × V)} {x : Key} (hd : Ev J td σ w (DicR kvs)) (hk : Ev J ta σ w (Is (kV x))) : Ev J (tDIn ta td) σ w (RB (valV kvs x).isSome) := fun w' e Q q =>
  hk w' e _ fun y w1 e1 r1 => hd w1 (e.trans e1) _ fun dv w2 e3 ⟨d, e2, hd2⟩ => ⟨d, _, e2, .inl ⟨kvs, x, .inl (w2.ok _ _ hd2), r1, rfl⟩, q _ w2 (e1.trans e3) rfl⟩
theorem ev_dni {kvs : List (Key × V)} {x : Key} (hd : Ev J td σ w (DicR kvs)) (hk : Ev J ta σ w (Is (kV x))) : Ev J (tDNotIn ta td) σ w (RB (!(valV kvs x).isSome)) := fun w' e Q q =>
  hk w' e _ fun y w1 e1 r1 => hd w1 (e.trans e1) _ fun dv w2 e3 ⟨d, e2, hd2⟩ => ⟨d, _, e2, .inl ⟨kvs, x, .inl (w2.ok _ _ hd2), r1, rfl⟩, q _ w2 (e1.trans e3) rfl⟩
/-! ### operations -/
theorem ev_opI {g : Int → Int → V} {C : Int → Int → Prop} {a b : Int} (ha : Ev J ta σ w (RI a)) (hb : Ev J tb σ w (RI b)) (hc : C a b) (hr : ∀ f, R.r f (g a b)) : Ev J (tOp (rI C g) ta tb) σ w R :=
  ev_op ha hb fun x y w' _ hx hy Q q => ⟨a, b, hx, hy, hc, q _ w' .rfl (hr _)⟩
theorem ev_op0 {g : Int → Int → V} {a b : Int} (ha : Ev J ta σ w (RI a)) (hb : Ev J tb σ w (RI b)) : Ev J (tOp (rI0 g) ta tb) σ w (Is (g a b)) :=
  ev_op ha hb fun x y w' _ hx hy Q q => ⟨a, b, hx, hy, q _ w' .rfl rfl⟩
theorem ev_addS {a b : Str} (ha : Ev J ta σ w (RS a)) (hb : Ev J tb σ w (RS b)) (hz : a.length + b.length ≤ sizeLine) : Ev J (tOp K07.rAddS ta tb) σ w (RS (a ++ b)) :=
  ev_op ha hb fun x y w' _ hx hy Q q => ⟨a, b, hx, hy, hz, q _ w' .rfl rfl⟩
theorem ev_eq {a b : V} {c : Bool} (ha : Ev J ta σ w (Is a)) (hb : Ev J tb σ w (Is b)) (hs : scal a b = true) (hc : decide (a = b) = c) : Ev J (tOp rEq ta tb) σ w (RB c) :=
  ev_op ha hb fun x y w' _ hx hy Q q => by
    subst hx hy
    exact ⟨hs, q _ w' .rfl (by rw [hc]; rfl)⟩
theorem ev_ne {a b : V} {c : Bool} (ha : Ev J ta σ w (Is a)) (hb : Ev J tb σ w (Is b)) (hs : scal a b = true) (hc : (!decide (a = b)) = c) : Ev J (tOp rNe ta tb) σ w (RB c) :=
  ev_op ha hb fun x y w' _ hx hy Q q => by
    subst hx hy
    exact ⟨hs, q _ w' .rfl (by rw [hc]; rfl)⟩
theorem atI_nat {α : Type} {xs : List α} {n : Nat} {v : α} (h : xs[n]? = some v) : atI xs (n : Int) = some v := by
  have hn := (List.getElem?_eq_some_iff.mp h).1
  unfold atI ixN
  rw [if_pos (by omega), if_pos (by omega)]
  simpa using h
theorem ev_ixL {n : Nat} (ha : Ev J ta σ w (LstR K Rs)) (hb : Ev J tb σ w (RI n)) (hn : Rs[n]? = some R) : Ev J (tOp (rIxL K) ta tb) σ w R :=
  ev_op ha hb fun x y w' _ ⟨a, xs, h1, h2, h3⟩ hy Q q => by
    obtain ⟨v, hv, hr⟩ := h3.get hn
    exact ⟨a, xs, n, v, h1, hy, sqL_h w' h2, atI_nat hv, q _ w' .rfl hr⟩
theorem ev_ixT {n : Nat} (ha : Ev J ta σ w (TupR K Rs)) (hb : Ev J tb σ w (RI n)) (hn : Rs[n]? = some R) : Ev J (tOp (rIxT K) ta tb) σ w R :=
  ev_op ha hb fun x y w' _ ⟨a, xs, h1, h2, h3⟩ hy Q q => by
    obtain ⟨v, hv, hr⟩ := h3.get hn
    exact ⟨a, xs, n, v, h1, hy, sqT_h w' h2, atI_nat hv, q _ w' .rfl hr⟩
theorem ev_lenL (ha : Ev J ta σ w (LstR K Rs)) : Ev J (tCB (rLenQ K) (tCons ta tNil)) σ w (RI Rs.length) := fun w' e Q q => ha w' e _ fun v w1 e1 ⟨a, xs, h1, h2, h3⟩ => by
  subst h1
  exact ⟨a, xs, rfl, .inl (sqL_h w1 h2), q _ w1 e1 (by rw [h3.len]; rfl)⟩
theorem ev_lenT (ha : Ev J ta σ w (TupR K Rs)) : Ev J (tCB (rLenQ K) (tCons ta tNil)) σ w (RI Rs.length) := fun w' e Q q => ha w' e _ fun v w1 e1 ⟨a, xs, h1, h2, h3⟩ => by
  subst h1
  exact ⟨a, xs, rfl, .inr (sqT_h w1 h2), q _ w1 e1 (by rw [h3.len]; rfl)⟩
theorem ev_lenO {l : Addr} {xs : List V} (hl : Own w l (.lst xs)) (hj : ¬ J l) (hv : σ[i]? = some (some (.ref l))) : Ev J (tCB (rLenQ K) (tCons (tVar i) tNil)) σ w (RI xs.length) := fun w' e Q q =>
  ⟨.ref l, hv, l, xs, rfl, .inl (.inl (.inl (hl.le e hj).h)), q _ w' .rfl rfl⟩
theorem ev_lenS {z : Str} (ha : Ev J ta σ w (RS z)) (hz : z.length ≤ sizeLine) : Ev J (tCB rLenS (tCons ta tNil)) σ w (RI z.length) := fun w' e Q q => ha w' e _ fun v w1 e1 h => by
  cases h
  exact ⟨z, rfl, hz, q _ w1 e1 rfl⟩
theorem ev_tupF (ha : Ev J ta σ w (Dat K (.list ds))) : Ev J (tCB (rTupF K) (tCons ta tNil)) σ w (TupD K ds) := fun w' e Q q => ha w' e _ fun v w1 e1 h => by
  cases h with
  | @lst a xs _ h1 h2 => exact ⟨a, xs, rfl, sqL_h w1 h1, fun l o ho hl => q (.ref l) (w1.new l _) (e1.trans (Le.new hl)) ⟨l, xs, rfl, ⟨o, ho, new_at⟩, dps_mono (Le.new (J := J) hl).ef _ _ h2⟩⟩
theorem ev_strI {a : Int} (ha : Ev J ta σ w (RI a)) (hz : a.natAbs.log2 < 1920) : Ev J (tCB rStrI (tCons ta tNil)) σ w (RS (toString a)) := fun w' e Q q => ha w' e _ fun v w1 e1 h => by
  cases h
  exact ⟨a, rfl, hz, q _ w1 e1 rfl⟩
theorem ev_int1 {a : Int} (ha : Ev J ta σ w (RI a)) : Ev J (tCB rInt1 (tCons ta tNil)) σ w (RI a) := fun w' e Q q => ha w' e _ fun v w1 e1 h => by
  cases h
  exact .inl ⟨a, rfl, q _ w1 e1 rfl⟩
theorem dps_strs {f : Hp} : ∀ {ys : List Str} {xs : List V}, DpAll K f xs (ys.map PyData.str) → xs = ys.map V.str
  | [], _, h => by cases h; rfl
  | y :: ys, _, h => by
    cases h with
    | cons h5 h6 => cases h5; rw [dps_strs h6]; rfl
theorem ev_join {a : Str} {ys : List Str} (ha : Ev J ta σ w (RS a)) (hb : Ev J tb σ w (Dat K (.list (ys.map PyData.str)))) (hz : (ys.map (·.length)).sum + ys.length * a.length ≤ 16777216) : Ev J (tM1 (rJoin K) ta tb) σ w (RS (PySem.Txt.join a ys)) := fun w' e Q q =>
  ha w' e _ fun v w1 e1 h => ⟨⟨a, h⟩, hb w1 (e.trans e1) _ fun u w2 e2 h2 => by
    cases h2 with
    | @lst p xs _ h3 h4 =>
      have ex := dps_strs h4
      subst ex
      exact ⟨a, p, ys, h, rfl, .inl (sqL_h w2 h3), hz, q _ w2 (e1.trans e2) rfl⟩⟩
theorem ev_fld {C : Addr} {x : Str} (hc : Cls K C) (hn : NoAttr K C x) (ha : Ev J ta σ w S) (hs : ∀ f v, S.r f v → ∃ a dx fs u, v = .ref a ∧ f a = some (.ins C dx fs) ∧ fs.lookup x = some u ∧ R.r f u) : Ev J (tFld K ta x) σ w R := fun w' e Q q =>
  ha w' e _ fun v w1 e1 h => by
    obtain ⟨a, dx, fs, u, h1, h2, h3, h4⟩ := hs _ _ h
    exact ⟨a, C, dx, fs, u, h1, w1.ok _ _ h2, hc, hn, h3, q u w1 e1 h4⟩
/-! ### what is walked -/
structure ItOk (J : Addr → Prop) (Jt : It) (f0 : Hp) (n : Nat) (P : Nat → Rp) : Prop where
  go : ∀ i (w : Wd), i < n → Exf f0 w.f → Jt.go i w.h
  stop : ∀ w : Wd, Exf f0 w.f → Jt.stop n w.h
  yld : ∀ i (w : Wd) x H', i < n → Exf f0 w.f → Jt.yld i w.h x H' → ∃ w', H' = w'.h ∧ Le J w w' ∧ (P i).r w'.f x
def Src (J : Addr → Prop) (wi : TI) (σ : St) (w : Wd) (n : Nat) (P : Nat → Rp) : Prop := ∀ w', Le J w w' → ∀ R : It → Hp → Prop, (∀ Jt w1, Le J w' w1 → ItOk J Jt w1.f n P → R Jt w1.h) → wi σ w'.h R
theorem get_all {f : Hp} {xs : List V} {i : Nat} {x : V} (h : AllR f Rs xs) (e : xs[i]? = some x) : (Rs.getD i (Is .non)).r f x := by
  obtain ⟨S, h1, h2⟩ := h.at e
  rw [List.getD_eq_getElem?_getD, h1]
  exact h2
theorem src_list (h : Ev J te σ w (LstR K Rs)) : Src J (iList K te) σ w Rs.length fun i => Rs.getD i (Is .non) := fun w' e R k => h w' e _ fun v w1 e1 ⟨a, xs, h1, h2, h3⟩ => by
  subst h1
  have hl := h3.len
  refine ⟨a, rfl, ⟨xs, sqL_h w1 h2⟩, k _ w1 e1 ⟨fun i w2 hi e2 => ⟨xs, xs[i]'(by omega), sqL_h w2 (sqL_mono e2 h2), by simp [show i < xs.length by omega]⟩, fun w2 e2 => ⟨xs, sqL_h w2 (sqL_mono e2 h2), by omega⟩, fun i w2 x H' hi e2 y => ?_⟩⟩
  obtain ⟨rfl, y⟩ := y
  exact ⟨w2, rfl, .rfl, get_all (h3.mono e2) (y xs (sqL_h w2 (sqL_mono e2 h2)))⟩
theorem src_tup (h : Ev J te σ w (TupR K Rs)) : Src J (iTup K te) σ w Rs.length fun i => Rs.getD i (Is .non) := fun w' e R k => h w' e _ fun v w1 e1 ⟨a, xs, h1, h2, h3⟩ => by
  subst h1
  have hl := h3.len
  refine ⟨a, rfl, ⟨xs, sqT_h w1 h2⟩, k _ w1 e1 ⟨fun i w2 hi e2 => ⟨xs, xs[i]'(by omega), sqT_h w2 (sqT_mono e2 h2), by simp [show i < xs.length by omega]⟩, fun w2 e2 => ⟨xs, sqT_h w2 (sqT_mono e2 h2), by omega⟩, fun i w2 x H' hi e2 y => ?_⟩⟩
  obtain ⟨rfl, y⟩ := y
  exact ⟨w2, rfl, .rfl, get_all (h3.mono e2) (y xs (sqT_h w2 (sqT_mono e2 h2)))⟩
theorem src_str {z : Str} (h : Ev J te σ w (RS z)) : Src J (iStr te) σ w z.cps.size fun i => Some Nat (fun c => z.cps[i]? = some c) fun c => RS ⟨#[c]⟩ := fun w' e R k => h w' e _ fun v w1 e1 h1 =>
  ⟨z, h1, k _ w1 e1 ⟨fun i w2 hi e2 => hi, fun w2 e2 => Nat.le_refl _, fun i w2 x H' hi e2 y => by
    obtain ⟨rfl, c, h3, h4⟩ := y
    exact ⟨w2, rfl, .rfl, c, h3, h4⟩⟩⟩
theorem src_rng1 {n : Int} (h : Ev J te σ w (RI n)) (h1 : 0 ≤ n) (h2 : n < 2 ^ 62) : Src J (iRng1 (tCons te tNil)) σ w n.toNat fun i => RI i := fun w' e R k => h w' e _ fun v w1 e1 hv => by
  cases hv
  refine ⟨n, rfl, by omega, h2, k _ w1 e1 ⟨fun i w2 hi e2 => hi, fun w2 e2 => Nat.le_refl _, fun i w2 x H' hi e2 y => ?_⟩⟩
  obtain ⟨rfl, rfl⟩ := y
  exact ⟨w2, rfl, .rfl, by show V.int _ = V.int _; simp⟩
theorem src_rng2 {a b : Int} (ha : Ev J ta σ w (RI a)) (hb : Ev J tb σ w (RI b)) (h1 : -(2 ^ 62) ≤ a) (h2 : a < 2 ^ 62) (h3 : -(2 ^ 62) ≤ b) (h4 : b < 2 ^ 62) : Src J (iRng2 (tCons ta (tCons tb tNil))) σ w (b - a).toNat fun i => RI (a + i) := fun w' e R k =>
  ha w' e _ fun v w1 e1 hv => hb w1 (e.trans e1) _ fun u w2 e2 hu => by
  cases hv
  cases hu
  refine ⟨a, b, rfl, ⟨h1, h2, h3, h4⟩, k _ w2 (e1.trans e2) ⟨fun i w2 hi e2 => hi, fun w2 e2 => Nat.le_refl _, fun i w2 x H' hi e2 y => ?_⟩⟩
  obtain ⟨rfl, rfl⟩ := y
  exact ⟨w2, rfl, .rfl, rfl⟩
theorem src_enum (h : Ev J te σ w (LstR K Rs)) : Src J (iEnum K (tCons te tNil)) σ w Rs.length fun i => TupR K [RI i, Rs.getD i (Is .non)] := fun w' e R k => h w' e _ fun v w1 e1 ⟨a, xs, h1, h2, h3⟩ => by
  subst h1
  have hl := h3.len
  refine ⟨a, xs, rfl, sqL_h w1 h2, k _ w1 e1 ⟨fun i w2 hi e2 => ⟨xs, xs[i]'(by omega), sqL_h w2 (sqL_mono e2 h2), by simp [show i < xs.length by omega]⟩, fun w2 e2 => ⟨xs, sqL_h w2 (sqL_mono e2 h2), by omega⟩, fun i w2 x H' hi e2 y => ?_⟩⟩
  obtain ⟨T, z, rfl, hT, rfl, y⟩ := y
  exact ⟨w2.new T _, rfl, Le.new hT, T, _, rfl, .inl (.inl new_at), rfl, (Rs.getD i (Is .non)).mono (Le.new (J := J) hT).ef (get_all (h3.mono e2) (y xs (sqL_h w2 (sqL_mono e2 h2)))), trivial⟩
theorem src_enumT (h : Ev J te σ w (TupR K Rs)) : Src J (iEnumT K (tCons te tNil)) σ w Rs.length fun i => TupR K [RI i, Rs.getD i (Is .non)] := fun w' e R k => h w' e _ fun v w1 e1 ⟨a, xs, h1, h2, h3⟩ => by
  subst h1
  have hl := h3.len
  refine ⟨a, xs, rfl, sqT_h w1 h2, k _ w1 e1 ⟨fun i w2 hi e2 => ⟨sqT_h w2 (sqT_mono e2 h2), by omega⟩, fun w2 e2 => ⟨sqT_h w2 (sqT_mono e2 h2), by omega⟩, fun i w2 x H' hi e2 y => ?_⟩⟩
  obtain ⟨T, z, rfl, hT, rfl, y⟩ := y
  exact ⟨w2.new T _, rfl, Le.new hT, T, _, rfl, .inl (.inl new_at), rfl, (Rs.getD i (Is .non)).mono (Le.new (J := J) hT).ef (get_all (h3.mono e2) y), trivial⟩
theorem src_enumS {z : Str} (h : Ev J te σ w (RS z)) : Src J (iEnumS (tCons te tNil)) σ w z.cps.size fun i => Some Nat (fun c => z.cps[i]? = some c) fun c => TupR K [RI i, RS ⟨#[c]⟩] := fun w' e R k => h w' e _ fun v w1 e1 h1 => by
  cases h1
  refine ⟨z, rfl, k _ w1 e1 ⟨fun i w2 hi e2 => hi, fun w2 e2 => rfl, fun i w2 x H' hi e2 y => ?_⟩⟩
  obtain ⟨T, c, rfl, hT, rfl, y⟩ := y
  exact ⟨w2.new T _, rfl, Le.new hT, c, y, T, _, rfl, .inl (.inl new_at), rfl, rfl, trivial⟩
/-! ### loops -/
theorem st_for {wi : TI} {n : Nat} {P : Nat → Rp} (hs : Src J wi σ w n P) (inv : Nat → St → Wd → Prop) (h0 : ∀ w1, Le J w w1 → inv 0 σ w1)
    (step : ∀ i σ1 w1, i < n → inv i σ1 w1 → ∀ x w2, Le J w1 w2 → (P i).r w2.f x → ∀ Kk : St → Hp → Prop, (∀ σ' w', Exf w1.f w'.f → inv (i + 1) σ' w' → Kk σ' w'.h) → g x σ1 w2.h fun σ2 H2 => sa { D with nx := Kk, ct := Kk, bk := D.nx } σ2 H2)
    (done : ∀ σ1 w1, inv n σ1 w1 → D.nx σ1 w1.h) : tFor wi g sa D σ w.h := by
  refine hs w .rfl _ fun Jt wb eb ok => ?_
  refine ⟨fun i m σ1 H1 => m = n - i ∧ i ≤ n ∧ ∃ w1, H1 = w1.h ∧ Exf wb.f w1.f ∧ inv i σ1 w1, ⟨n, by simp, Nat.zero_le _, wb, rfl, fun _ _ h => h, h0 wb eb⟩, ?_⟩
  rintro i m σ1 H1 ⟨rfl, hi, w1, rfl, ef, hinv⟩
  by_cases hlt : i < n
  · refine .inr ⟨ok.go i w1 hlt ef, fun σ' H' => ∃ w', H' = w'.h ∧ Exf wb.f w'.f ∧ inv (i + 1) σ' w', fun σ' H' p => ⟨n - (i + 1), by omega, rfl, hlt, p⟩, fun x H' y => ?_⟩
    obtain ⟨w2, rfl, e2, r2⟩ := ok.yld i w1 x H' hlt ef y
    exact step i σ1 w1 hlt hinv x w2 e2 r2 _ fun σ' w' e3 h3 => ⟨w', rfl, fun p o h => e3 p o (ef p o h), h3⟩
  · have e : i = n := by omega
    subst e
    exact .inl ⟨ok.stop w1 ef, done σ1 w1 hinv⟩
theorem st_while {m0 : Nat} (inv : Nat → St → Wd → Prop) (h0 : inv m0 σ w)
    (step : ∀ m σ1 w1, inv m σ1 w1 → ∃ P : Bool → Prop, EvT J tt σ1 w1 P ∧ (P true → ∀ w2, Le J w1 w2 → ∀ Kk : St → Hp → Prop, (∀ m' σ' w', m' < m → inv m' σ' w' → Kk σ' w'.h) → sa { D with nx := Kk, ct := Kk, bk := D.nx } σ1 w2.h) ∧ (P false → ∀ w2, Le J w1 w2 → D.nx σ1 w2.h)) : tWhile tt sa D σ w.h := by
  refine ⟨fun m σ1 H1 => ∃ w1, H1 = w1.h ∧ inv m σ1 w1, ⟨m0, w, rfl, h0⟩, ?_⟩
  rintro m σ1 H1 ⟨w1, rfl, hinv⟩
  obtain ⟨P, ht, h1, h2⟩ := step m σ1 w1 hinv
  refine ht w1 .rfl _ fun b w2 e2 p => ?_
  cases b with
  | true => exact ⟨fun σ' H' => ∃ m', m' < m ∧ ∃ w', H' = w'.h ∧ inv m' σ' w', fun σ' H' ⟨m', hm, w', e, hi⟩ => ⟨m', hm, w', e, hi⟩, h1 p w2 e2 _ fun m' σ' w' hm hi => ⟨m', hm, w', rfl, hi⟩⟩
  | false => exact h2 p w2 e2
/-! ### comprehensions -/
def keptR (n : Nat) (f : Nat → Bool) (E : Nat → Rp) : List Rp := ((List.range n).filter f).map E
theorem keptR_yes {n : Nat} {f : Nat → Bool} {E : Nat → Rp} (h : f n = true) : keptR (n + 1) f E = keptR n f E ++ [E n] := by
  unfold keptR
  rw [List.range_succ, List.filter_append, List.map_append, List.filter_cons_of_pos h]
  rfl
theorem keptR_no {n : Nat} {f : Nat → Bool} {E : Nat → Rp} (h : f n = false) : keptR (n + 1) f E = keptR n f E := by
  unfold keptR
  rw [List.range_succ, List.filter_append, List.map_append, List.filter_cons_of_neg (by simp [h])]
  simp
theorem keptR_len (n : Nat) (f : Nat → Bool) (E : Nat → Rp) : (keptR n f E).length ≤ n := by
  unfold keptR
  rw [List.length_map]
  have h := List.length_filter_le f (List.range n)
  rwa [List.length_range] at h
theorem lc_mut {wi : TI} {n : Nat} {P : Nat → Rp} {vs : List Nat} (f : Nat → Bool) (E : Nat → Rp) (hs : Src J wi σ w n P) (hn : n ≤ 10000)
    (turn : ∀ i w1, i < n → Le J w w1 → ∀ x, (P i).r w1.f x → ∀ Q : St → Hp → Prop, (∀ σ2 w2, Le J w1 w2 → wipe σ2 vs = wipe σ vs → EvB J tt σ2 w2 (f i) → (f i = true → Ev J te σ2 w2 (E i)) → Q σ2 w2.h) → g x (wipe σ vs) w1.h Q)
    (hj : ∀ D, w.h D = none → ¬ J D) : EvN J (tLc wi g tt te vs) σ w fun f' o => ∃ xs, o = .lst xs ∧ AllR f' (keptR n f E) xs := fun w' e' Q q => by
  refine hs w' e' _ fun Jt wb eb ok D hD => ?_
  have hDw : w.h D = none := e'.fresh (eb.fresh hD)
  have nj : ¬ J D := hj D hDw
  let W : Nat → Nat → Hp → Prop := fun i m H1 => m = n - i ∧ i ≤ n ∧ ∃ w1 xs, H1 = w1.h ∧ Le J wb w1 ∧ Own w1 D (.lst xs) ∧ AllR w1.f (keptR i f E) xs
  refine ⟨W, ⟨n, by simp, Nat.zero_le _, wb.put D (.lst []) (wb.fresh_f hD), [], rfl, put_le hD, Mt.own (Wd.put_mt _) (wb.fresh_f hD), trivial⟩, ?_⟩
  rintro i m H1 ⟨rfl, hi, w1, xs, rfl, l1, own, all⟩
  by_cases hlt : i < n
  · refine .inr ⟨ok.go i w1 hlt l1.ef, fun H' => W (i + 1) (n - (i + 1)) H', fun H' p => ⟨n - (i + 1), by omega, p⟩, fun x H' y => ?_⟩
    obtain ⟨w2, rfl, e2, r2⟩ := ok.yld i w1 x H' hlt l1.ef y
    refine turn i w2 hlt (((e'.trans eb).trans l1).trans e2) x r2 _ fun σ3 w3 e3 hw ht he => ⟨hw, ht w3 .rfl _ fun b w4 e4 p => ?_⟩
    subst p
    cases hf : f i with
    | false =>
      refine ⟨rfl, hlt, w4, xs, rfl, ((l1.trans e2).trans e3).trans e4, own.le ((e2.trans e3).trans e4) nj, ?_⟩
      rw [keptR_no hf]
      exact all.mono ((e2.trans e3).trans e4).ef
    | true =>
      refine he hf w4 e4 _ fun v w5 e5 r5 => ?_
      have l5 := (((l1.trans e2).trans e3).trans e4).trans e5
      have own5 := own.le (((e2.trans e3).trans e4).trans e5) nj
      have hl := all.len
      have hk := keptR_len i f E
      refine ⟨xs, own5.h, Nat.lt_of_le_of_lt (show xs.length ≤ 10000 by omega) (by decide), rfl, hlt, w5.put D (.lst (xs ++ [v])) own5.f, xs ++ [v], rfl, l5.mt (Wd.put_mt _) hD own5.f, Mt.own (Wd.put_mt _) own5.f, ?_⟩
      rw [keptR_yes hf]
      exact (all.mono (((e2.trans e3).trans e4).trans e5).ef).snoc r5
  · have e : i = n := by omega
    subst e
    exact .inl ⟨ok.stop w1 l1.ef, q D _ w1 (eb.trans l1) (eb.fresh hD) own ⟨xs, rfl, all⟩⟩
theorem en_lstR {te : TE} (h : EvN J te σ w fun f' o => ∃ xs, o = .lst xs ∧ AllR f' Rs xs) : Ev J te σ w (LstR K Rs) := fun w' e Q q => h w' e _ fun p o w1 e1 hp own ⟨xs, ho, all⟩ => by
  subst ho
  exact q (.ref p) (w1.pub p _ own.h) (e1.pub hp own.h) ⟨p, xs, rfl, .inl (.inl (pub_at own.h)), all.mono (pub_ef own.h own.f)⟩
theorem wipe_set1 {σ : St} {j : Nat} {x : Option V} : wipe ((wipe σ [j]).set j x) [j] = wipe σ [j] := by
  simp [wipe]
end
end Z
end

section -- Pd
set_option Elab.async false
set_option linter.all false
set_option maxRecDepth 100000
set_option maxHeartbeats 4000000
namespace K07
open PySem PySem.Spec PyProof.Rows L2
/-- a def's promise: its own reading -/
def spT (n : Nat) (N : List Str) (t : TS) : Sp := fun vs H Q _ => vs.length = n ∧ t { nx := fun _ H' => Q .non H', rt := Q } (start N vs) H
abbrev N_knot_order : List Str := ["knots", "places", "order", "seen", "index", "knot", "letter"]
def t_knot_order (K : PySem.W.Frag) (cS cP : Addr) : TS :=
  (tSeq (tPar3 1 2 3 (tCons tDNewK (tCons (tLst tNil) (tCons tDNewK tNil))))
    (tSeq (tFor (iEnum K (tCons (tVar 0) tNil)) (gTup K 2 (gCons (gName 4) (gCons (gName 5) gNil)))
    (tFor (iStr (tOp (rIxL K) (tVar 5) (tC (.int 0)))) (gName 6)
    (sDPut (tVar 1) (tVar 6) (tVar 4))))
    (tSeq (tFor (iList K (tCB rSortedD (tCons (tVar 1) tNil))) (gName 6)
    (tSeq (tAsg (tDGet (tVar 1) (tVar 6)) (gName 4))
    (tWhile (tAnd (tB (tNotN (tVar 4))) (tB (tDNotIn (tVar 4) (tVar 3)))) (tSeq (sDPut (tVar 3) (tVar 4) (tC (.bl true)))
    (tSeq (tDrop (tBM K "list" rAppend (tVar 2) (tCons (tVar 4) tNil)))
    (tAsg (tOp (rIxL K) (tOp (rIxL K) (tVar 0) (tVar 4)) (tC (.int 2))) (gName 4)))))))
    (tRet (tVar 2)))))
def p_knot_order (K : PySem.W.Frag) (cS cP : Addr) : Sp := spT 1 N_knot_order (t_knot_order K cS cP)
abbrev N_shape_of_knots : List Str := ["knots", "order", "number", "place", "index", "words", "names", "sign", "behind", "word"]
def t_shape_of_knots (K : PySem.W.Frag) (cS cP : Addr) : TS :=
  (tSeq (tAsg tDNewK (gName 2))
    (tSeq (tFor (iEnum K (tCons (tVar 1) tNil)) (gTup K 2 (gCons (gName 3) (gCons (gName 4) gNil)))
    (sDPut (tVar 2) (tVar 4) (tVar 3)))
    (tSeq (tAsg (tLst tNil) (gName 5))
    (tSeq (tFor (iList K (tVar 1)) (gName 4)
    (tSeq (tAsg (tOp (rIxL K) (tVar 0) (tVar 4)) (gUnl K 3 (gCons (gName 6) (gCons (gName 7) (gCons (gName 8) gNil)))))
    (tSeq (tAsg (tIf (tTest (tOp rNe (tVar 6) (tC (.str "")))) (tM1 (rJoin K) (tC (.str "")) (tCB rSortedSt (tCons (tVar 6) tNil))) (tC (.str "-"))) (gName 9))
    (tDrop (tBM K "list" rAppend (tVar 5) (tCons (tOp rAddS (tOp rAddS (tVar 9) (tVar 7)) (tIf (tTest (tOp rEq (tVar 7) (tC (.str ">")))) (tCB rStrI (tCons (tDGet (tVar 2) (tVar 8)) tNil)) (tC (.str "")))) tNil))))))
    (tRet (tM1 (rJoin K) (tC (.str " ")) (tVar 5)))))))
def p_shape_of_knots (K : PySem.W.Frag) (cS cP : Addr) : Sp := spT 2 N_shape_of_knots (t_shape_of_knots K cS cP)
abbrev N_knots_in : List Str := ["shape", "found", "word", "cut", "names", "sign", "rest", "place"]
def t_knots_in (K : PySem.W.Frag) (cS cP : Addr) : TS :=
  (tSeq (tAsg (tLst tNil) (gName 1))
    (tSeq (tFor (iList K (tM1 rSplit (tVar 0) (tC (.str " ")))) (gName 2)
    (tSeq (tAsg (tLc (iEnumS (tCons (tVar 2) tNil)) (gTup K 2 (gCons (gName 7) (gCons (gName 5) gNil))) (tTest (tOp rInS (tVar 5) (tC (.str ".!>")))) (tVar 7) [7, 5]) (gName 3))
    (tSeq (tIfS (tTest (tOp (rEqD K) (tVar 3) (tLst tNil))) (tRet (tC .non)) tNext)
    (tSeq (tPar3 4 5 6 (tCons (tSl rSlS (tVar 2) tNoPart (tPart (tOp (rIxL K) (tVar 3) (tC (.int 0))))) (tCons (tOp rIxS (tVar 2) (tOp (rIxL K) (tVar 3) (tC (.int 0)))) (tCons (tSl rSlS (tVar 2) (tPart (tOp rAddI (tOp (rIxL K) (tVar 3) (tC (.int 0))) (tC (.int 1)))) tNoPart) tNil))))
    (tSeq (tIfS (tOr (tTest (tOp rEq (tVar 4) (tC (.str "")))) (tOr (tTest (tOp rNe (tOp rEq (tVar 5) (tC (.str ">"))) (tM0 rIsDigit (tVar 6)))) (tOr (tAnd (tTest (tOp rNe (tVar 5) (tC (.str ">")))) (tTest (tOp rNe (tVar 6) (tC (.str ""))))) (tTest (tOp rGtI (tCB rLenS (tCons (tVar 6) tNil)) (tC (.int 2))))))) (tRet (tC .non)) tNext)
    (tDrop (tBM K "list" rAppend (tVar 1) (tCons (tLst (tCons (tIf (tTest (tOp rEq (tVar 4) (tC (.str "-")))) (tC (.str "")) (tVar 4)) (tCons (tVar 5) (tCons (tIf (tTest (tOp rEq (tVar 5) (tC (.str ">")))) (tCB rIntS (tCons (tVar 6) tNil)) (tC .non)) tNil)))) tNil))))))))
    (tRet (tVar 1))))
def p_knots_in (K : PySem.W.Frag) (cS cP : Addr) : Sp := spT 1 N_knots_in (t_knots_in K cS cP)
abbrev N_is_whole : List Str := ["value"]
def t_is_whole (K : PySem.W.Frag) (cS cP : Addr) : TS :=
  (tRet (tAndV (tCB (rIsi K) (tCons (tVar 0) (tCons (tC (.ty "int")) tNil))) (tNotV (tCB (rIsi K) (tCons (tVar 0) (tCons (tC (.ty "bool")) tNil))))))
def p_is_whole (K : PySem.W.Frag) (cS cP : Addr) : Sp := spT 1 N_is_whole (t_is_whole K cS cP)
abbrev N_is_between : List Str := ["value", "low", "high"]
def t_is_between (K : PySem.W.Frag) (cS cP : Addr) (sp_is_whole : Sp) : TS :=
  (tRet (tAndV (tCl sp_is_whole (tCons (tVar 0) tNil)) (tAndV (tOp rLeI (tVar 1) (tVar 0)) (tOp rLeI (tVar 0) (tVar 2)))))
def p_is_between (K : PySem.W.Frag) (cS cP : Addr) : Sp := spT 3 N_is_between (t_is_between K cS cP (p_is_whole K cS cP))
abbrev N_is_place : List Str := ["value"]
def t_is_place (K : PySem.W.Frag) (cS cP : Addr) (sp_is_between : Sp) : TS :=
  (tRet (tCl sp_is_between (tCons (tVar 0) (tCons (tC (.int 0)) (tCons (tC (.int 999)) tNil)))))
def p_is_place (K : PySem.W.Frag) (cS cP : Addr) : Sp := spT 1 N_is_place (t_is_place K cS cP (p_is_between K cS cP))
abbrev N_is_letter : List Str := ["value"]
def t_is_letter (K : PySem.W.Frag) (cS cP : Addr) : TS :=
  (tRet (tAndV (tCB (rIsi K) (tCons (tVar 0) (tCons (tC (.ty "str")) tNil))) (tAndV (tOp rEq (tCB rLenS (tCons (tVar 0) tNil)) (tC (.int 1))) (tOp rInS (tVar 0) (tC (.str LET))))))
def p_is_letter (K : PySem.W.Frag) (cS cP : Addr) : Sp := spT 1 N_is_letter (t_is_letter K cS cP)
abbrev N_is_pair : List Str := ["value"]
def t_is_pair (K : PySem.W.Frag) (cS cP : Addr) : TS :=
  (tRet (tAndV (tCB (rIsi K) (tCons (tVar 0) (tCons (tC (.ty "tuple")) tNil))) (tOp rEq (tCB (rLenQ K) (tCons (tVar 0) tNil)) (tC (.int 2)))))
def p_is_pair (K : PySem.W.Frag) (cS cP : Addr) : Sp := spT 1 N_is_pair (t_is_pair K cS cP)
abbrev N_are_knots_right : List Str := ["knots", "letters", "knot", "letter"]
def t_are_knots_right (K : PySem.W.Frag) (cS cP : Addr) : TS :=
  (tSeq (tAsg (tM1 (rJoin K) (tC (.str "")) (tLc (iList K (tVar 0)) (gName 2) tYes (tOp (rIxL K) (tVar 2) (tC (.int 0))) [2])) (gName 1))
    (tSeq (tIfS (tOr (tNot (tTest (tChain rLeI rLeI (tC (.int 1)) (tCB rLenS (tCons (tVar 1) tNil)) (tC (.int 4))))) (tTest (tOp rNe (tLenSetS (tVar 1)) (tCB rLenS (tCons (tVar 1) tNil))))) (tRet (tC (.bl false))) tNext)
    (tSeq (tIfS (tTest (tOp (rNeD K) (tLc (iStr (tVar 1)) (gName 3) (tTest (tOp rNotInS (tVar 3) (tC (.str LET)))) (tVar 3) [3]) (tLst tNil))) (tRet (tC (.bl false))) tNext)
    (tSeq (tIfS (tTest (tOp rGtI (tCB (rLenQ K) (tCons (tLc (iList K (tVar 0)) (gName 2) (tTest (tOp rEq (tOp (rIxL K) (tVar 2) (tC (.int 1))) (tC (.str ".")))) (tVar 2) [2]) tNil)) (tC (.int 1)))) (tRet (tC (.bl false))) tNext)
    (tRet (tCB (rAll K) (tCons (tLc (iList K (tVar 0)) (gName 2) tYes (tOrV (tIsN (tOp (rIxL K) (tVar 2) (tC (.int 2)))) (tOp rLtI (tOp (rIxL K) (tVar 2) (tC (.int 2))) (tCB (rLenQ K) (tCons (tVar 0) tNil)))) [2]) tNil)))))))
def p_are_knots_right (K : PySem.W.Frag) (cS cP : Addr) : Sp := spT 1 N_are_knots_right (t_are_knots_right K cS cP)
abbrev N_has_needless_knot : List Str := ["knots", "entries", "knot", "index"]
def t_has_needless_knot (K : PySem.W.Frag) (cS cP : Addr) : TS :=
  (tSeq (tAsg (tOp rRep (tLst (tCons (tC (.int 0)) tNil)) (tCB (rLenQ K) (tCons (tVar 0) tNil))) (gName 1))
    (tSeq (tFor (iList K (tVar 0)) (gName 2)
    (tIfS (tB (tNotN (tOp (rIxL K) (tVar 2) (tC (.int 2))))) (tAugS (tVar 1) (tOp (rIxL K) (tVar 2) (tC (.int 2))) (tC (.int 1)) (rGetA K) (ipI fun i j => i + j) rSetL) tNext))
    (tRet (tCB (rAny K) (tCons (tLc (iEnum K (tCons (tVar 0) tNil)) (gTup K 2 (gCons (gName 3) (gCons (gName 2) gNil))) tYes (tAndV (tOp rEq (tOp (rIxL K) (tVar 2) (tC (.int 0))) (tC (.str ""))) (tAndV (tOp rEq (tOp (rIxL K) (tVar 2) (tC (.int 1))) (tC (.str ">"))) (tOp rLtI (tOp (rIxL K) (tVar 1) (tVar 3)) (tC (.int 2))))) [3, 2]) tNil)))))
def p_has_needless_knot (K : PySem.W.Frag) (cS cP : Addr) : Sp := spT 1 N_has_needless_knot (t_has_needless_knot K cS cP)
abbrev N_shape_knots : List Str := ["value", "knots", "order"]
def t_shape_knots (K : PySem.W.Frag) (cS cP : Addr) (sp_knots_in sp_are_knots_right sp_has_needless_knot sp_knot_order sp_shape_of_knots : Sp) : TS :=
  (tSeq (tAsg (tIf (tB (tCB (rIsi K) (tCons (tVar 0) (tCons (tC (.ty "str")) tNil)))) (tCl sp_knots_in (tCons (tVar 0) tNil)) (tC .non)) (gName 1))
    (tSeq (tIfS (tOr (tB (tIsN (tVar 1))) (tOr (tNot (tB (tCl sp_are_knots_right (tCons (tVar 1) tNil)))) (tB (tCl sp_has_needless_knot (tCons (tVar 1) tNil))))) (tRet (tC .non)) tNext)
    (tSeq (tAsg (tCl sp_knot_order (tCons (tVar 1) tNil)) (gName 2))
    (tSeq (tIfS (tOr (tTest (tOp (rNeD K) (tVar 2) (tLstRg (tRg1 (tCB (rLenQ K) (tCons (tVar 1) tNil)))))) (tTest (tOp rNe (tCl sp_shape_of_knots (tCons (tVar 1) (tCons (tVar 2) tNil))) (tVar 0)))) (tRet (tC .non)) tNext)
    (tRet (tVar 1))))))
def p_shape_knots (K : PySem.W.Frag) (cS cP : Addr) : Sp := spT 1 N_shape_knots (t_shape_knots K cS cP (p_knots_in K cS cP) (p_are_knots_right K cS cP) (p_has_needless_knot K cS cP) (p_knot_order K cS cP) (p_shape_of_knots K cS cP))
abbrev N_are_name_pairs : List Str := ["value", "last", "pair"]
def t_are_name_pairs (K : PySem.W.Frag) (cS cP : Addr) (sp_is_pair sp_is_letter sp_is_place : Sp) : TS :=
  (tSeq (tIfS (tOr (tNot (tB (tCB (rIsi K) (tCons (tVar 0) (tCons (tC (.ty "tuple")) tNil))))) (tNot (tTest (tChain rLeI rLeI (tC (.int 1)) (tCB (rLenQ K) (tCons (tVar 0) tNil)) (tC (.int 4)))))) (tRet (tC (.bl false))) tNext)
    (tSeq (tAsg (tC (.str "")) (gName 1))
    (tSeq (tFor (iTup K (tVar 0)) (gName 2)
    (tSeq (tIfS (tOr (tNot (tB (tCl sp_is_pair (tCons (tVar 2) tNil)))) (tOr (tNot (tB (tCl sp_is_letter (tCons (tOp (rIxT K) (tVar 2) (tC (.int 0))) tNil)))) (tOr (tNot (tB (tCl sp_is_place (tCons (tOp (rIxT K) (tVar 2) (tC (.int 1))) tNil)))) (tTest (tOp rLeS (tOp (rIxT K) (tVar 2) (tC (.int 0))) (tVar 1)))))) (tRet (tC (.bl false))) tNext)
    (tAsg (tOp (rIxT K) (tVar 2) (tC (.int 0))) (gName 1))))
    (tRet (tC (.bl true))))))
def p_are_name_pairs (K : PySem.W.Frag) (cS cP : Addr) : Sp := spT 1 N_are_name_pairs (t_are_name_pairs K cS cP (p_is_pair K cS cP) (p_is_letter K cS cP) (p_is_place K cS cP))
abbrev N_check_cells : List Str := ["value", "last", "index", "pair"]
def t_check_cells (K : PySem.W.Frag) (cS cP : Addr) (sp_is_pair sp_is_place : Sp) : TS :=
  (tSeq (tIfS (tNot (tB (tCB (rIsi K) (tCons (tVar 0) (tCons (tC (.ty "tuple")) tNil))))) tNever tNext)
    (tSeq (tAsg (tC (.int 0)) (gName 1))
    (tFor (iEnumT K (tCons (tVar 0) tNil)) (gTup K 2 (gCons (gName 2) (gCons (gName 3) gNil)))
    (tSeq (tIfS (tOr (tTest (tOp rEq (tVar 2) (tC (.int 500)))) (tOr (tNot (tB (tCl sp_is_pair (tCons (tVar 3) tNil)))) (tOr (tNot (tB (tCl sp_is_place (tCons (tOp (rIxT K) (tVar 3) (tC (.int 0))) tNil)))) (tNot (tB (tCl sp_is_place (tCons (tOp (rIxT K) (tVar 3) (tC (.int 1))) tNil))))))) tNever tNext)
    (tSeq (tIfS (tTest (tOp rLeI (tOp (rIxT K) (tVar 3) (tC (.int 0))) (tVar 1))) tNever tNext)
    (tAsg (tOp (rIxT K) (tVar 3) (tC (.int 0))) (gName 1)))))))
def p_check_cells (K : PySem.W.Frag) (cS cP : Addr) : Sp := spT 1 N_check_cells (t_check_cells K cS cP (p_is_pair K cS cP) (p_is_place K cS cP))
abbrev N_Store_init : List Str := ["self", "names", "cells", "letter", "place"]
def t_Store_init (K : PySem.W.Frag) (cS cP : Addr) (sp_are_name_pairs sp_check_cells : Sp) : TS :=
  (tSeq (tIfS (tNot (tB (tCl sp_are_name_pairs (tCons (tVar 1) tNil)))) tNever tNext)
    (tSeq (tDrop (tCl sp_check_cells (tCons (tVar 2) tNil)))
    (tSeq (sFld K (tVar 0) (tVar 1) "names")
    (tSeq (sFld K (tVar 0) (tVar 2) "cells")
    (tSeq (sFld K (tVar 0) (tCB (rDictT K) (tCons (tVar 1) tNil)) "places")
    (tSeq (sFld K (tVar 0) (tCB (rDictT K) (tCons (tVar 2) tNil)) "arrows")
    (sFld K (tVar 0) (tM1 (rJoin K) (tC (.str "")) (tLc (iTup K (tVar 1)) (gTup K 2 (gCons (gName 3) (gCons (gName 4) gNil))) tYes (tVar 3) [3, 4])) "letters")))))))
def p_Store_init (K : PySem.W.Frag) (cS cP : Addr) : Sp := spT 3 N_Store_init (t_Store_init K cS cP (p_are_name_pairs K cS cP) (p_check_cells K cS cP))
abbrev N_check_store : List Str := ["value"]
def t_check_store (K : PySem.W.Frag) (cS cP : Addr) : TS :=
  (tIfS (tNot (tB (tCB (rIsC cS) (tCons (tVar 0) (tCons (tC (.ref cS)) tNil))))) tNever tNext)
def p_check_store (K : PySem.W.Frag) (cS cP : Addr) : Sp := spT 1 N_check_store (t_check_store K cS cP)
abbrev N_reached_cells : List Str := ["store", "found", "letter", "place"]
def t_reached_cells (K : PySem.W.Frag) (cS cP : Addr) : TS :=
  (tSeq (tAsg tDNewK (gName 1))
    (tSeq (tFor (iTup K (tFld K (tVar 0) "names")) (gTup K 2 (gCons (gName 2) (gCons (gName 3) gNil)))
    (tWhile (tAnd (tB (tDIn (tVar 3) (tFld K (tVar 0) "arrows"))) (tB (tDNotIn (tVar 3) (tVar 1)))) (tSeq (sDPut (tVar 1) (tVar 3) (tC (.bl true)))
    (tAsg (tDGet (tFld K (tVar 0) "arrows") (tVar 3)) (gName 3)))))
    (tRet (tVar 1))))
def p_reached_cells (K : PySem.W.Frag) (cS cP : Addr) : Sp := spT 1 N_reached_cells (t_reached_cells K cS cP)
abbrev N_Plan_init : List Str := ["self", "shape", "lengths", "lost", "knots", "many", "knot", "length", "letter"]
def t_Plan_init (K : PySem.W.Frag) (cS cP : Addr) (sp_shape_knots sp_is_between : Sp) : TS :=
  (tSeq (tAsg (tCl sp_shape_knots (tCons (tVar 1) tNil)) (gName 4))
    (tSeq (tIfS (tB (tIsN (tVar 4))) tNever tNext)
    (tSeq (tAsg (tCB (rLenQ K) (tCons (tLc (iList K (tVar 4)) (gName 6) (tTest (tOp rEq (tOp (rIxL K) (tVar 6) (tC (.int 1))) (tC (.str ">")))) (tVar 6) [6]) tNil)) (gName 5))
    (tSeq (tIfS (tOr (tNot (tB (tCB (rIsi K) (tCons (tVar 2) (tCons (tC (.ty "tuple")) tNil))))) (tTest (tOp rNe (tCB (rLenQ K) (tCons (tVar 2) tNil)) (tVar 5)))) tNever tNext)
    (tSeq (tIfS (tNot (tB (tCB (rAll K) (tCons (tLc (iTup K (tVar 2)) (gName 7) tYes (tCl sp_is_between (tCons (tVar 7) (tCons (tC (.int 1)) (tCons (tC (.int 1000000000000000000000000000000)) tNil)))) [7]) tNil)))) tNever tNext)
    (tSeq (tIfS (tNot (tB (tCl sp_is_between (tCons (tVar 3) (tCons (tC (.int 0)) (tCons (tC (.int 1000000000000000000000000000000)) tNil)))))) tNever tNext)
    (tSeq (sFld K (tVar 0) (tVar 1) "shape")
    (tSeq (sFld K (tVar 0) (tVar 2) "lengths")
    (tSeq (sFld K (tVar 0) (tVar 3) "lost")
    (sFld K (tVar 0) (tM1 (rJoin K) (tC (.str "")) (tCB (rSortedS K) (tCons (tLc2 (iList K (tVar 4)) (gName 6) tYes (iStr (tOp (rIxL K) (tVar 6) (tC (.int 0)))) (gName 8) tYes (tVar 8) [6, 8] [8]) tNil))) "letters"))))))))))
def p_Plan_init (K : PySem.W.Frag) (cS cP : Addr) : Sp := spT 4 N_Plan_init (t_Plan_init K cS cP (p_shape_knots K cS cP) (p_is_between K cS cP))
abbrev N_Plan_eq : List Str := ["self", "other"]
def t_Plan_eq (K : PySem.W.Frag) (cS cP : Addr) : TS :=
  (tSeq (tIfS (tNot (tB (tCB (rIsC cP) (tCons (tVar 1) (tCons (tC (.ref cP)) tNil))))) (tRet (tC (.bl false))) tNext)
    (tRet (tAndV (tOp rEq (tFld K (tVar 0) "shape") (tFld K (tVar 1) "shape")) (tAndV (tOp (rEqD K) (tFld K (tVar 0) "lengths") (tFld K (tVar 1) "lengths")) (tOp rEq (tFld K (tVar 0) "lost") (tFld K (tVar 1) "lost"))))))
def p_Plan_eq (K : PySem.W.Frag) (cS cP : Addr) : Sp := spT 2 N_Plan_eq (t_Plan_eq K cS cP)
abbrev N_Plan_size : List Str := ["self"]
def t_Plan_size (K : PySem.W.Frag) (cS cP : Addr) : TS :=
  (tRet (tOp rAddI (tCB (rSumA K) (tCons (tFld K (tVar 0) "lengths") tNil)) (tFld K (tVar 0) "lost")))
def p_Plan_size (K : PySem.W.Frag) (cS cP : Addr) : Sp := spT 1 N_Plan_size (t_Plan_size K cS cP)
abbrev N_Plan_text : List Str := ["self", "words", "length"]
def t_Plan_text (K : PySem.W.Frag) (cS cP : Addr) : TS :=
  (tSeq (tAsg (tM1 (rJoin K) (tC (.str " ")) (tLc (iTup K (tFld K (tVar 0) "lengths")) (gName 2) tYes (tCB rStrI (tCons (tVar 2) tNil)) [2])) (gName 1))
    (tRet (tOp rAddS (tOp rAddS (tOp rAddS (tOp rAddS (tFld K (tVar 0) "shape") (tC (.str " | "))) (tIf (tTest (tOp rNe (tVar 1) (tC (.str "")))) (tVar 1) (tC (.str "none")))) (tC (.str " | "))) (tCB rStrI (tCons (tFld K (tVar 0) "lost") tNil)))))
def p_Plan_text (K : PySem.W.Frag) (cS cP : Addr) : Sp := spT 1 N_Plan_text (t_Plan_text K cS cP)
abbrev N_check_plan : List Str := ["value"]
def t_check_plan (K : PySem.W.Frag) (cS cP : Addr) : TS :=
  (tIfS (tNot (tB (tCB (rIsC cP) (tCons (tVar 0) (tCons (tC (.ref cP)) tNil))))) tNever tNext)
def p_check_plan (K : PySem.W.Frag) (cS cP : Addr) : Sp := spT 1 N_check_plan (t_check_plan K cS cP)
abbrev N_knot_places : List Str := ["store", "reached", "entries", "found", "cell", "arrow", "letter", "place"]
def t_knot_places (K : PySem.W.Frag) (cS cP : Addr) : TS :=
  (tSeq (tPar 2 3 (tCons tDNewK (tCons tDNewK tNil)))
    (tSeq (tLock (tFor (iKeys (tVar 1)) (gName 4)
    (tSeq (tAsg (tDGet (tFld K (tVar 0) "arrows") (tVar 4)) (gName 5))
    (sDPut (tVar 2) (tVar 5) (tOp rAddI (tDGet2 (tVar 2) (tVar 5) (tC (.int 0))) (tC (.int 1)))))))
    (tSeq (tFor (iTup K (tFld K (tVar 0) "names")) (gTup K 2 (gCons (gName 6) (gCons (gName 7) gNil)))
    (sDPut (tVar 3) (tVar 7) (tC (.bl true))))
    (tSeq (tLock (tFor (iKeys (tVar 2)) (gName 7)
    (tIfS (tOr (tB (tDNotIn (tVar 7) (tFld K (tVar 0) "arrows"))) (tTest (tOp rGtI (tDGet (tVar 2) (tVar 7)) (tC (.int 1))))) (sDPut (tVar 3) (tVar 7) (tC (.bl true))) tNext)))
    (tRet (tVar 3))))))
def p_knot_places (K : PySem.W.Frag) (cS cP : Addr) : Sp := spT 2 N_knot_places (t_knot_places K cS cP)
abbrev N_ordered_knots : List Str := ["store", "places", "numbers", "found", "letter", "place"]
def t_ordered_knots (K : PySem.W.Frag) (cS cP : Addr) : TS :=
  (tSeq (tPar 2 3 (tCons tDNewK (tCons (tLst tNil) tNil)))
    (tSeq (tFor (iTup K (tFld K (tVar 0) "names")) (gTup K 2 (gCons (gName 4) (gCons (gName 5) gNil)))
    (tWhile (tB (tDNotIn (tVar 5) (tVar 2))) (tSeq (tIfS (tB (tDIn (tVar 5) (tVar 1))) (tSeq (sDPut (tVar 2) (tVar 5) (tC (.bl true)))
    (tDrop (tBM K "list" rAppend (tVar 3) (tCons (tVar 5) tNil)))) tNext)
    (tSeq (tIfS (tB (tDNotIn (tVar 5) (tFld K (tVar 0) "arrows"))) tBreak tNext)
    (tAsg (tDGet (tFld K (tVar 0) "arrows") (tVar 5)) (gName 5))))))
    (tRet (tVar 3))))
def p_ordered_knots (K : PySem.W.Frag) (cS cP : Addr) : Sp := spT 2 N_ordered_knots (t_ordered_knots K cS cP)
abbrev N_stretch_from : List Str := ["store", "places", "place", "cells", "behind"]
def t_stretch_from (K : PySem.W.Frag) (cS cP : Addr) : TS :=
  (tSeq (tPar 3 4 (tCons (tLst (tCons (tVar 2) tNil)) (tCons (tDGet (tFld K (tVar 0) "arrows") (tVar 2)) tNil)))
    (tSeq (tWhile (tB (tDNotIn (tVar 4) (tVar 1))) (tSeq (tDrop (tBM K "list" rAppend (tVar 3) (tCons (tVar 4) tNil)))
    (tAsg (tDGet (tFld K (tVar 0) "arrows") (tVar 4)) (gName 4))))
    (tRet (tTup (tCons (tCB (rTupF K) (tCons (tVar 3) tNil)) (tCons (tVar 4) tNil))))))
def p_stretch_from (K : PySem.W.Frag) (cS cP : Addr) : Sp := spT 3 N_stretch_from (t_stretch_from K cS cP)
abbrev N_parts_of : List Str := ["store", "places", "order", "place"]
def t_parts_of (K : PySem.W.Frag) (cS cP : Addr) (sp_knot_places sp_reached_cells sp_ordered_knots sp_stretch_from : Sp) : TS :=
  (tSeq (tAsg (tCl sp_knot_places (tCons (tVar 0) (tCons (tCl sp_reached_cells (tCons (tVar 0) tNil)) tNil))) (gName 1))
    (tSeq (tAsg (tCl sp_ordered_knots (tCons (tVar 0) (tCons (tVar 1) tNil))) (gName 2))
    (tRet (tTup (tCons (tVar 2) (tCons (tLc (iList K (tVar 2)) (gName 3) (tB (tDIn (tVar 3) (tFld K (tVar 0) "arrows"))) (tCl sp_stretch_from (tCons (tVar 0) (tCons (tVar 1) (tCons (tVar 3) tNil)))) [3]) tNil))))))
def p_parts_of (K : PySem.W.Frag) (cS cP : Addr) : Sp := spT 1 N_parts_of (t_parts_of K cS cP (p_knot_places K cS cP) (p_reached_cells K cS cP) (p_ordered_knots K cS cP) (p_stretch_from K cS cP))
abbrev N_knots_of : List Str := ["store"]
def t_knots_of (K : PySem.W.Frag) (cS cP : Addr) (sp_check_store sp_parts_of : Sp) : TS :=
  (tSeq (tDrop (tCl sp_check_store (tCons (tVar 0) tNil)))
    (tRet (tCB (rTupF K) (tCons (tOp (rIxT K) (tCl sp_parts_of (tCons (tVar 0) tNil)) (tC (.int 0))) tNil))))
def p_knots_of (K : PySem.W.Frag) (cS cP : Addr) : Sp := spT 1 N_knots_of (t_knots_of K cS cP (p_check_store K cS cP) (p_parts_of K cS cP))
abbrev N_stretches_of : List Str := ["store", "cells", "behind"]
def t_stretches_of (K : PySem.W.Frag) (cS cP : Addr) (sp_check_store sp_parts_of : Sp) : TS :=
  (tSeq (tDrop (tCl sp_check_store (tCons (tVar 0) tNil)))
    (tRet (tCB (rTupF K) (tCons (tLc (iList K (tOp (rIxT K) (tCl sp_parts_of (tCons (tVar 0) tNil)) (tC (.int 1)))) (gTup K 2 (gCons (gName 1) (gCons (gName 2) gNil))) tYes (tVar 1) [1, 2]) tNil))))
def p_stretches_of (K : PySem.W.Frag) (cS cP : Addr) : Sp := spT 1 N_stretches_of (t_stretches_of K cS cP (p_check_store K cS cP) (p_parts_of K cS cP))
abbrev N_plan_of : List Str := ["store", "order", "stretches", "number", "goals", "knots", "index", "place", "cells", "behind", "names", "sign", "lengths", "letter", "led"]
def t_plan_of (K : PySem.W.Frag) (cS cP : Addr) (sp_check_store sp_parts_of sp_Plan_init sp_shape_of_knots : Sp) : TS :=
  (tSeq (tDrop (tCl sp_check_store (tCons (tVar 0) tNil)))
    (tSeq (tAsg (tCl sp_parts_of (tCons (tVar 0) tNil)) (gTup K 2 (gCons (gName 1) (gCons (gName 2) gNil))))
    (tSeq (tPar3 3 4 5 (tCons tDNewK (tCons tDNewK (tCons (tLst tNil) tNil))))
    (tSeq (tFor (iEnum K (tCons (tVar 1) tNil)) (gTup K 2 (gCons (gName 6) (gCons (gName 7) gNil)))
    (sDPut (tVar 3) (tVar 7) (tVar 6)))
    (tSeq (tFor (iList K (tVar 2)) (gTup K 2 (gCons (gName 8) (gCons (gName 9) gNil)))
    (sDPut (tVar 4) (tOp (rIxT K) (tVar 8) (tC (.int 0))) (tDGet (tVar 3) (tVar 9))))
    (tSeq (tFor (iList K (tVar 1)) (gName 7)
    (tSeq (tAsg (tM1 (rJoin K) (tC (.str "")) (tLc (iTup K (tFld K (tVar 0) "names")) (gTup K 2 (gCons (gName 13) (gCons (gName 14) gNil))) (tTest (tOp rEq (tVar 14) (tVar 7))) (tVar 13) [13, 14])) (gName 10))
    (tSeq (tAsg (tIf (tB (tDIn (tVar 7) (tVar 4))) (tC (.str ">")) (tIf (tTest (tOp rEq (tVar 7) (tC (.int 0)))) (tC (.str ".")) (tC (.str "!")))) (gName 11))
    (tDrop (tBM K "list" rAppend (tVar 5) (tCons (tLst (tCons (tVar 10) (tCons (tVar 11) (tCons (tDGet1 (tVar 4) (tVar 7)) tNil)))) tNil))))))
    (tSeq (tAsg (tCB (rTupF K) (tCons (tLc (iList K (tVar 2)) (gTup K 2 (gCons (gName 8) (gCons (gName 9) gNil))) tYes (tCB (rLenQ K) (tCons (tVar 8) tNil)) [8, 9]) tNil)) (gName 12))
    (tRet (tMake cP sp_Plan_init [] E0 (tCons (tCl sp_shape_of_knots (tCons (tVar 5) (tCons (tLstRg (tRg1 (tCB (rLenQ K) (tCons (tVar 5) tNil)))) tNil))) (tCons (tVar 12) (tCons (tOp rSubI (tCB (rLenQ K) (tCons (tFld K (tVar 0) "cells") tNil)) (tCB (rSumA K) (tCons (tVar 12) tNil))) tNil))))))))))))
def p_plan_of (K : PySem.W.Frag) (cS cP : Addr) : Sp := spT 1 N_plan_of (t_plan_of K cS cP (p_check_store K cS cP) (p_parts_of K cS cP) (p_Plan_init K cS cP) (p_shape_of_knots K cS cP))
abbrev N_cells_along : List Str := ["plan", "knots", "places", "found", "index", "place", "knot", "first", "length", "far", "cell"]
def t_cells_along (K : PySem.W.Frag) (cS cP : Addr) : TS :=
  (tSeq (tAsg (tTup (tCons (tLst tNil) (tCons (tC (.int 0)) tNil))) (gTup K 2 (gCons (gName 3) (gCons (gName 4) gNil))))
    (tSeq (tFor (iEnum K (tCons (tVar 1) tNil)) (gTup K 2 (gCons (gName 5) (gCons (gName 6) gNil)))
    (tIfS (tTest (tOp rEq (tOp (rIxL K) (tVar 6) (tC (.int 1))) (tC (.str ">")))) (tSeq (tPar 7 8 (tCons (tOp (rIxL K) (tVar 2) (tVar 5)) (tCons (tOp (rIxT K) (tFld K (tVar 0) "lengths") (tVar 4)) tNil)))
    (tSeq (tDrop (tBM K "list" rExtend (tVar 3) (tCons (tLc (iRng2 (tCons (tVar 7) (tCons (tOp rSubI (tOp rAddI (tVar 7) (tVar 8)) (tC (.int 1))) tNil))) (gName 10) tYes (tTup (tCons (tVar 10) (tCons (tOp rAddI (tVar 10) (tC (.int 1))) tNil))) [10]) tNil)))
    (tSeq (tDrop (tBM K "list" rAppend (tVar 3) (tCons (tTup (tCons (tOp rSubI (tOp rAddI (tVar 7) (tVar 8)) (tC (.int 1))) (tCons (tOp (rIxL K) (tVar 2) (tOp (rIxL K) (tVar 6) (tC (.int 2)))) tNil))) tNil)))
    (tAsg (tOp rAddI (tVar 4) (tC (.int 1))) (gName 4))))) tNext))
    (tRet (tCB (rTupF K) (tCons (tOp rCat (tVar 3) (tLc (iRng1 (tCons (tFld K (tVar 0) "lost") tNil)) (gName 9) tYes (tTup (tCons (tOp rAddI (tOp rAddI (tCB (rLenQ K) (tCons (tVar 3) tNil)) (tC (.int 1))) (tVar 9)) (tCons (tC (.int 0)) tNil))) [9])) tNil)))))
def p_cells_along (K : PySem.W.Frag) (cS cP : Addr) : Sp := spT 3 N_cells_along (t_cells_along K cS cP)
abbrev N_names_at : List Str := ["knots", "places", "index", "knot", "letter"]
def t_names_at (K : PySem.W.Frag) (cS cP : Addr) : TS :=
  (tRet (tCB (rTupF K) (tCons (tCB (rSortedN K) (tCons (tLc2 (iEnum K (tCons (tVar 0) tNil)) (gTup K 2 (gCons (gName 2) (gCons (gName 3) gNil))) tYes (iStr (tOp (rIxL K) (tVar 3) (tC (.int 0)))) (gName 4) tYes (tTup (tCons (tVar 4) (tCons (tOp (rIxL K) (tVar 1) (tVar 2)) tNil))) [2, 3, 4] [4]) tNil)) tNil)))
def p_names_at (K : PySem.W.Frag) (cS cP : Addr) : Sp := spT 2 N_names_at (t_names_at K cS cP)
abbrev N_store_of : List Str := ["plan", "knots", "places", "count", "index", "gone", "names", "sign", "behind"]
def t_store_of (K : PySem.W.Frag) (cS cP : Addr) (sp_check_plan sp_Plan_size sp_knots_in sp_Store_init sp_cells_along sp_names_at : Sp) : TS :=
  (tSeq (tDrop (tCl sp_check_plan (tCons (tVar 0) tNil)))
    (tSeq (tIfS (tTest (tOp rGtI (tProp cP sp_Plan_size [] E0 (tVar 0)) (tC (.int 500)))) tNever tNext)
    (tSeq (tAsg (tTup (tCons (tCl sp_knots_in (tCons (tFld K (tVar 0) "shape") tNil)) (tCons (tLst tNil) (tCons (tC (.int 0)) (tCons (tC (.int 0)) tNil))))) (gTup K 4 (gCons (gName 1) (gCons (gName 2) (gCons (gName 3) (gCons (gName 4) gNil))))))
    (tSeq (tAsg (tProp cP sp_Plan_size [] E0 (tVar 0)) (gName 5))
    (tSeq (tFor (iList K (tVar 1)) (gUnl K 3 (gCons (gName 6) (gCons (gName 7) (gCons (gName 8) gNil))))
    (tIfS (tTest (tOp rEq (tVar 7) (tC (.str ">")))) (tSeq (tDrop (tBM K "list" rAppend (tVar 2) (tCons (tOp rAddI (tVar 3) (tC (.int 1))) tNil)))
    (tSeq (tAsg (tOp rAddI (tVar 3) (tOp (rIxT K) (tFld K (tVar 0) "lengths") (tVar 4))) (gName 3))
    (tAsg (tOp rAddI (tVar 4) (tC (.int 1))) (gName 4)))) (tSeq (tAsg (tOp rAddI (tVar 5) (tIf (tTest (tOp rEq (tVar 7) (tC (.str "!")))) (tC (.int 1)) (tC (.int 0)))) (gName 5))
    (tDrop (tBM K "list" rAppend (tVar 2) (tCons (tIf (tTest (tOp rEq (tVar 7) (tC (.str "!")))) (tVar 5) (tC (.int 0))) tNil))))))
    (tRet (tMake cS sp_Store_init [] E0 (tCons (tCl sp_names_at (tCons (tVar 1) (tCons (tVar 2) tNil))) (tCons (tCl sp_cells_along (tCons (tVar 0) (tCons (tVar 1) (tCons (tVar 2) tNil)))) tNil)))))))))
def p_store_of (K : PySem.W.Frag) (cS cP : Addr) : Sp := spT 1 N_store_of (t_store_of K cS cP (p_check_plan K cS cP) (p_Plan_size K cS cP) (p_knots_in K cS cP) (p_Store_init K cS cP) (p_cells_along K cS cP) (p_names_at K cS cP))
abbrev N_are_alike : List Str := ["store", "other"]
def t_are_alike (K : PySem.W.Frag) (cS cP : Addr) (sp_check_store sp_plan_of sp_Plan_eq : Sp) : TS :=
  (tSeq (tDrop (tCl sp_check_store (tCons (tVar 0) tNil)))
    (tSeq (tDrop (tCl sp_check_store (tCons (tVar 1) tNil)))
    (tRet (tOp (rPeq cP sp_Plan_eq) (tCl sp_plan_of (tCons (tVar 0) tNil)) (tCl sp_plan_of (tCons (tVar 1) tNil))))))
def p_are_alike (K : PySem.W.Frag) (cS cP : Addr) : Sp := spT 2 N_are_alike (t_are_alike K cS cP (p_check_store K cS cP) (p_plan_of K cS cP) (p_Plan_eq K cS cP))
abbrev N_tidy : List Str := ["store"]
def t_tidy (K : PySem.W.Frag) (cS cP : Addr) (sp_store_of sp_plan_of : Sp) : TS :=
  (tRet (tCl sp_store_of (tCons (tCl sp_plan_of (tCons (tVar 0) tNil)) tNil)))
def p_tidy (K : PySem.W.Frag) (cS cP : Addr) : Sp := spT 1 N_tidy (t_tidy K cS cP (p_store_of K cS cP) (p_plan_of K cS cP))
abbrev N_law_jug : List Str := ["_law_script", "_law_turn", "_law_seed", "_law_each", "_law_cell", "_law_great"]
def t_law_jug (K : PySem.W.Frag) (cS cP : Addr) : TS :=
  (tSeq (tAsg (tOp rAddI (tC (.int 104729)) (tOp rMulI (tC (.int 7907)) (tVar 1))) (gName 2))
    (tSeq (tFor (iList K (tSl (rSlL K) (tVar 0) tNoPart (tPart (tC (.int 8))))) (gName 3)
    (tAsg (tOp rModI (tCB rInt1 (tCons (tOp rAddI (tOp rAddI (tOp rMulI (tVar 2) (tC (.int 65537))) (tOp rMulI (tOp rModI (tCB rInt1 (tCons (tVar 3) tNil)) (tC (.int 1000000007))) (tC (.int 40961)))) (tC (.int 17))) tNil)) (tC (.int 1000000007))) (gName 2)))
    (tSeq (tAsg (tIf (tTest (tOp rLtI (tVar 1) (tCB (rLenQ K) (tCons (tVar 0) tNil)))) (tCB rInt1 (tCons (tOp (rIxL K) (tVar 0) (tVar 1)) tNil)) (tVar 2)) (gName 4))
    (tSeq (tAsg (tIf (tTest (tOp rGeI (tCB rAbs (tCons (tVar 4) tNil)) (tOp (rI CPow fun i j => .int (i ^ j.toNat)) (tC (.int 10)) (tC (.int 18))))) (tCB rAbs (tCons (tVar 4) tNil)) (tC (.int 0))) (gName 5))
    (tRet (tLst (tCons (tVar 5) (tCons (tOp rModI (tCB rInt1 (tCons (tOp rAddI (tOp rAddI (tOp rMulI (tVar 2) (tC (.int 39373))) (tOp rMulI (tOp rModI (tCB rInt1 (tCons (tVar 4) tNil)) (tC (.int 1000000007))) (tC (.int 48271)))) (tC (.int 1))) tNil)) (tC (.int 2147483399))) (tCons (tC (.int 0)) tNil)))))))))
def p_law_jug (K : PySem.W.Frag) (cS cP : Addr) : Sp := spT 2 N_law_jug (t_law_jug K cS cP)
abbrev N_law_take : List Str := ["_law_jug_here", "_law_many", "_law_figure"]
def t_law_take (K : PySem.W.Frag) (cS cP : Addr) : TS :=
  (tSeq (tIfS (tTest (tOp rGtI (tOp (rIxL K) (tVar 0) (tC (.int 0))) (tC (.int 0)))) (tSeq (tAsg (tCB rDivmodW (tCons (tOp (rIxL K) (tVar 0) (tC (.int 0))) (tCons (tVar 1) tNil))) (gTup K 2 (gCons (gSub (tVar 0) (tC (.int 0)) rSetL) (gCons (gName 2) gNil))))
    (tRet (tVar 2))) tNext)
    (tSeq (tAsg (tOp rAddI (tOp (rIxL K) (tVar 0) (tC (.int 2))) (tC (.int 1))) (gSub (tVar 0) (tC (.int 2)) rSetL))
    (tSeq (tAsg (tOp rModI (tCB rInt1 (tCons (tOp rAddI (tOp rAddI (tOp rMulI (tOp (rIxL K) (tVar 0) (tC (.int 1))) (tOp rAddI (tC (.int 40014)) (tOp rMulI (tC (.int 2)) (tOp (rIxL K) (tVar 0) (tC (.int 2)))))) (tC (.int 12211))) (tOp (rIxL K) (tVar 0) (tC (.int 2)))) tNil)) (tC (.int 2147483563))) (gSub (tVar 0) (tC (.int 1)) rSetL))
    (tRet (tOp rModI (tCB rInt1 (tCons (tOp rDivI (tOp (rIxL K) (tVar 0) (tC (.int 1))) (tC (.int 131))) tNil)) (tVar 1))))))
def p_law_take (K : PySem.W.Frag) (cS cP : Addr) : Sp := spT 2 N_law_take (t_law_take K cS cP)
abbrev N_law_one_of : List Str := ["_law_jug_here", "_law_some"]
def t_law_one_of (K : PySem.W.Frag) (cS cP : Addr) (sp_law_take : Sp) : TS :=
  (tRet (tOp (rIxL K) (tVar 1) (tCl sp_law_take (tCons (tVar 0) (tCons (tCB (rLenQ K) (tCons (tVar 1) tNil)) tNil)))))
def p_law_one_of (K : PySem.W.Frag) (cS cP : Addr) : Sp := spT 2 N_law_one_of (t_law_one_of K cS cP (p_law_take K cS cP))
abbrev N_law_letters : List Str := ["_law_jug_here", "_law_many", "_law_found", "_law_turn", "_law_near", "_law_left", "_law_letter"]
def t_law_letters (K : PySem.W.Frag) (cS cP : Addr) (sp_law_one_of sp_law_take : Sp) : TS :=
  (tSeq (tAsg (tLst tNil) (gName 2))
    (tSeq (tFor (iRng1 (tCons (tVar 1) tNil)) (gName 3)
    (tSeq (tAsg (tLc (iStr (tC (.str "xyzuvw"))) (gName 6) (tTest (tOp (rIn K true) (tVar 6) (tVar 2))) (tVar 6) [6]) (gName 4))
    (tSeq (tAsg (tLc (iStr (tC (.str "abcdefghijklmnopqrstuvwxyz"))) (gName 6) (tTest (tOp (rIn K true) (tVar 6) (tVar 2))) (tVar 6) [6]) (gName 5))
    (tDrop (tBM K "list" rAppend (tVar 2) (tCons (tCl sp_law_one_of (tCons (tVar 0) (tCons (tIf (tTest (tOp rEq (tCl sp_law_take (tCons (tVar 0) (tCons (tC (.int 2)) tNil))) (tC (.int 0)))) (tVar 4) (tVar 5)) tNil))) tNil))))))
    (tRet (tCB (rSortedS K) (tCons (tVar 2) tNil)))))
def p_law_letters (K : PySem.W.Frag) (cS cP : Addr) : Sp := spT 2 N_law_letters (t_law_letters K cS cP (p_law_one_of K cS cP) (p_law_take K cS cP))
abbrev N_law_drawn_cells : List Str := ["_law_jug_here", "_law_most", "_law_many", "_law_last", "_law_places", "_law_turn", "_law_goals", "_law_cells", "_law_at", "_law_place", "_law_goal"]
def t_law_drawn_cells (K : PySem.W.Frag) (cS cP : Addr) (sp_law_take sp_law_one_of : Sp) : TS :=
  (tSeq (tPar3 2 3 4 (tCons (tCl sp_law_take (tCons (tVar 0) (tCons (tOp rAddI (tVar 1) (tC (.int 1))) tNil))) (tCons (tCl sp_law_one_of (tCons (tVar 0) (tCons (tLst (tCons (tC (.int 0)) (tCons (tC (.int 0)) (tCons (tC (.int 0)) (tCons (tC (.int 900)) (tCons (tC (.int 41)) tNil)))))) tNil))) (tCons (tLst tNil) tNil))))
    (tSeq (tFor (iRng1 (tCons (tVar 2) tNil)) (gName 5)
    (tSeq (tAsg (tOp rAddI (tOp rAddI (tVar 3) (tC (.int 1))) (tCB rInt1 (tCons (tOp rEq (tCl sp_law_take (tCons (tVar 0) (tCons (tC (.int 3)) tNil))) (tC (.int 2))) tNil))) (gName 3))
    (tDrop (tBM K "list" rAppend (tVar 4) (tCons (tVar 3) tNil)))))
    (tSeq (tPar 6 7 (tCons (tOp rCat (tOp rCat (tLst (tCons (tC (.int 0)) tNil)) (tVar 4)) (tLst (tCons (tOp rAddI (tVar 3) (tC (.int 1))) (tCons (tOp rAddI (tVar 3) (tC (.int 2))) tNil)))) (tCons (tLst tNil) tNil)))
    (tSeq (tFor (iEnum K (tCons (tVar 4) tNil)) (gTup K 2 (gCons (gName 8) (gCons (gName 9) gNil)))
    (tSeq (tAsg (tOp (rIxL K) (tVar 6) (tOp rAddI (tVar 8) (tC (.int 2)))) (gName 10))
    (tSeq (tIfS (tTest (tOp rGtI (tCl sp_law_take (tCons (tVar 0) (tCons (tC (.int 3)) tNil))) (tC (.int 0)))) (tAsg (tCl sp_law_one_of (tCons (tVar 0) (tCons (tVar 6) tNil))) (gName 10)) tNext)
    (tDrop (tBM K "list" rAppend (tVar 7) (tCons (tTup (tCons (tVar 9) (tCons (tVar 10) tNil))) tNil))))))
    (tRet (tTup (tCons (tVar 7) (tCons (tVar 6) tNil))))))))
def p_law_drawn_cells (K : PySem.W.Frag) (cS cP : Addr) : Sp := spT 2 N_law_drawn_cells (t_law_drawn_cells K cS cP (p_law_take K cS cP) (p_law_one_of K cS cP))
abbrev N_law_drawn_store : List Str := ["_law_jug_here", "_law_letters_here", "_law_most", "_law_cells", "_law_goals", "_law_letter"]
def t_law_drawn_store (K : PySem.W.Frag) (cS cP : Addr) (sp_law_drawn_cells sp_law_one_of : Sp) : TS :=
  (tSeq (tAsg (tCl sp_law_drawn_cells (tCons (tVar 0) (tCons (tVar 2) tNil))) (gTup K 2 (gCons (gName 3) (gCons (gName 4) gNil))))
    (tRet (tTup (tCons (tCB (rTupF K) (tCons (tLc (iList K (tVar 1)) (gName 5) tYes (tTup (tCons (tVar 5) (tCons (tCl sp_law_one_of (tCons (tVar 0) (tCons (tVar 4) tNil))) tNil))) [5]) tNil)) (tCons (tCB (rTupF K) (tCons (tVar 3) tNil)) tNil)))))
def p_law_drawn_store (K : PySem.W.Frag) (cS cP : Addr) : Sp := spT 3 N_law_drawn_store (t_law_drawn_store K cS cP (p_law_drawn_cells K cS cP) (p_law_one_of K cS cP))
abbrev N_law_arrows : List Str := ["_law_cells", "_law_found", "_law_place", "_law_goal"]
def t_law_arrows (K : PySem.W.Frag) (cS cP : Addr) : TS :=
  (tSeq (tAsg tDNewK (gName 1))
    (tSeq (tFor (iTup K (tVar 0)) (gTup K 2 (gCons (gName 2) (gCons (gName 3) gNil)))
    (sDPut (tVar 1) (tVar 2) (tVar 3)))
    (tRet (tVar 1))))
def p_law_arrows (K : PySem.W.Frag) (cS cP : Addr) : Sp := spT 1 N_law_arrows (t_law_arrows K cS cP)
abbrev N_law_gone_along : List Str := ["_law_arrows_here", "_law_place", "_law_found", "_law_here", "_law_turn"]
def t_law_gone_along (K : PySem.W.Frag) (cS cP : Addr) : TS :=
  (tSeq (tPar 2 3 (tCons (tLst tNil) (tCons (tVar 1) tNil)))
    (tSeq (tFor (iRng1 (tCons (tOp rAddI (tCB rLenD (tCons (tVar 0) tNil)) (tC (.int 1))) tNil)) (gName 4)
    (tSeq (tIfS (tOr (tB (tDNotIn (tVar 3) (tVar 0))) (tTest (tOp (rIn K false) (tVar 3) (tVar 2)))) tBreak tNext)
    (tSeq (tDrop (tBM K "list" rAppend (tVar 2) (tCons (tVar 3) tNil)))
    (tAsg (tDGet (tVar 0) (tVar 3)) (gName 3)))))
    (tRet (tTup (tCons (tVar 2) (tCons (tVar 3) tNil))))))
def p_law_gone_along (K : PySem.W.Frag) (cS cP : Addr) : Sp := spT 2 N_law_gone_along (t_law_gone_along K cS cP)
abbrev N_law_knots : List Str := ["_law_names", "_law_arrows_here", "_law_come", "_law_into", "_law_found", "_law_letter", "_law_place", "_law_cell", "_law_heads", "_law_cells", "_law_end", "_law_here"]
def t_law_knots (K : PySem.W.Frag) (cS cP : Addr) (sp_law_gone_along : Sp) : TS :=
  (tSeq (tAsg (tTup (tCons (tLst tNil) (tCons tDNewK (tCons (tLst tNil) tNil)))) (gTup K 3 (gCons (gName 2) (gCons (gName 3) (gCons (gName 4) gNil)))))
    (tSeq (tFor (iTup K (tVar 0)) (gTup K 2 (gCons (gName 5) (gCons (gName 6) gNil)))
    (tAsg (tOp rCat (tVar 2) (tLc (iList K (tOp (rIxT K) (tCl sp_law_gone_along (tCons (tVar 1) (tCons (tVar 6) tNil))) (tC (.int 0)))) (gName 7) (tTest (tOp (rIn K true) (tVar 7) (tVar 2))) (tVar 7) [7])) (gName 2)))
    (tSeq (tFor (iList K (tVar 2)) (gName 7)
    (sDPut (tVar 3) (tDGet (tVar 1) (tVar 7)) (tOp rAddI (tDGet2 (tVar 3) (tDGet (tVar 1) (tVar 7)) (tC (.int 0))) (tC (.int 1)))))
    (tSeq (tAsg (tLc (iTup K (tVar 0)) (gTup K 2 (gCons (gName 5) (gCons (gName 6) gNil))) tYes (tVar 6) [5, 6]) (gName 8))
    (tSeq (tFor (iTup K (tVar 0)) (gTup K 2 (gCons (gName 5) (gCons (gName 6) gNil)))
    (tSeq (tAsg (tCl sp_law_gone_along (tCons (tVar 1) (tCons (tVar 6) tNil))) (gTup K 2 (gCons (gName 9) (gCons (gName 10) gNil))))
    (tFor (iList K (tOp rCat (tVar 9) (tLst (tCons (tVar 10) tNil)))) (gName 11)
    (tIfS (tAnd (tTest (tOp (rIn K true) (tVar 11) (tVar 4))) (tOr (tB (tDNotIn (tVar 11) (tVar 1))) (tOr (tTest (tOp (rIn K false) (tVar 11) (tVar 8))) (tTest (tOp rGtI (tDGet2 (tVar 3) (tVar 11) (tC (.int 0))) (tC (.int 1))))))) (tDrop (tBM K "list" rAppend (tVar 4) (tCons (tVar 11) tNil))) tNext))))
    (tRet (tTup (tCons (tVar 4) (tCons (tVar 2) tNil)))))))))
def p_law_knots (K : PySem.W.Frag) (cS cP : Addr) : Sp := spT 2 N_law_knots (t_law_knots K cS cP (p_law_gone_along K cS cP))
abbrev N_law_plan : List Str := ["_law_names", "_law_cells", "_law_arrows_here", "_law_knots_here", "_law_come", "_law_words", "_law_stretches", "_law_knot", "_law_word_here", "_law_line", "_law_here", "_law_turn", "_law_letter", "_law_place"]
def t_law_plan (K : PySem.W.Frag) (cS cP : Addr) (sp_law_arrows sp_law_knots : Sp) : TS :=
  (tSeq (tAsg (tCl sp_law_arrows (tCons (tVar 1) tNil)) (gName 2))
    (tSeq (tAsg (tCl sp_law_knots (tCons (tVar 0) (tCons (tVar 2) tNil))) (gTup K 2 (gCons (gName 3) (gCons (gName 4) gNil))))
    (tSeq (tPar 5 6 (tCons (tLst tNil) (tCons (tLst tNil) tNil)))
    (tSeq (tFor (iList K (tVar 3)) (gName 7)
    (tSeq (tAsg (tM1 (rJoin K) (tC (.str "")) (tLc (iTup K (tVar 0)) (gTup K 2 (gCons (gName 12) (gCons (gName 13) gNil))) (tTest (tOp rEq (tVar 13) (tVar 7))) (tVar 12) [12, 13])) (gName 8))
    (tSeq (tAsg (tIf (tTest (tOp rNe (tVar 8) (tC (.str "")))) (tVar 8) (tC (.str "-"))) (gName 8))
    (tIfS (tB (tDNotIn (tVar 7) (tVar 2))) (tDrop (tBM K "list" rAppend (tVar 5) (tCons (tOp rAddS (tVar 8) (tIf (tTest (tOp rEq (tVar 7) (tC (.int 0)))) (tC (.str ".")) (tC (.str "!")))) tNil))) (tSeq (tPar 9 10 (tCons (tLst (tCons (tVar 7) tNil)) (tCons (tDGet (tVar 2) (tVar 7)) tNil)))
    (tSeq (tFor (iRng1 (tCons (tCB rLenD (tCons (tVar 2) tNil)) tNil)) (gName 11)
    (tSeq (tIfS (tTest (tOp (rIn K false) (tVar 10) (tVar 3))) tBreak tNext)
    (tSeq (tDrop (tBM K "list" rAppend (tVar 9) (tCons (tVar 10) tNil)))
    (tAsg (tDGet (tVar 2) (tVar 10)) (gName 10)))))
    (tSeq (tDrop (tBM K "list" rAppend (tVar 5) (tCons (tOp rAddS (tOp rAddS (tVar 8) (tC (.str ">"))) (tCB rStrI (tCons (tBM K "list" (rIndex K) (tVar 3) (tCons (tVar 10) tNil)) tNil))) tNil)))
    (tDrop (tBM K "list" rAppend (tVar 6) (tCons (tVar 9) tNil))))))))))
    (tRet (tTup (tCons (tVar 5) (tCons (tLc (iList K (tVar 6)) (gName 9) tYes (tCB (rLenQ K) (tCons (tVar 9) tNil)) [9]) (tCons (tOp rSubI (tCB rLenD (tCons (tVar 2) tNil)) (tCB (rLenQ K) (tCons (tVar 4) tNil))) (tCons (tVar 6) (tCons (tVar 3) tNil)))))))))))
def p_law_plan (K : PySem.W.Frag) (cS cP : Addr) : Sp := spT 2 N_law_plan (t_law_plan K cS cP (p_law_arrows K cS cP) (p_law_knots K cS cP))
abbrev N_law_plan_text : List Str := ["_law_words", "_law_lengths", "_law_lost", "_law_middle", "_law_each"]
def t_law_plan_text (K : PySem.W.Frag) (cS cP : Addr) : TS :=
  (tSeq (tAsg (tIf (tTest (tOp rGtI (tCB (rLenQ K) (tCons (tVar 1) tNil)) (tC (.int 0)))) (tM1 (rJoin K) (tC (.str " ")) (tLc (iList K (tVar 1)) (gName 4) tYes (tCB rStrI (tCons (tVar 4) tNil)) [4])) (tC (.str "none"))) (gName 3))
    (tRet (tOp rAddS (tOp rAddS (tOp rAddS (tOp rAddS (tM1 (rJoin K) (tC (.str " ")) (tVar 0)) (tC (.str " | "))) (tVar 3)) (tC (.str " | "))) (tCB rStrI (tCons (tVar 2) tNil)))))
def p_law_plan_text (K : PySem.W.Frag) (cS cP : Addr) : Sp := spT 3 N_law_plan_text (t_law_plan_text K cS cP)
abbrev N_law_word : List Str := ["_law_word_here", "_law_halves"]
def t_law_word (K : PySem.W.Frag) (cS cP : Addr) : TS :=
  (tSeq (tIfS (tAnd (tTest (tOp rNe (tOp rIxS (tVar 0) (tUn (rU fun i => .int (-i)) (tC (.int 1)))) (tC (.str ".")))) (tTest (tOp rNe (tOp rIxS (tVar 0) (tUn (rU fun i => .int (-i)) (tC (.int 1)))) (tC (.str "!"))))) (tSeq (tAsg (tM1 rSplit (tVar 0) (tC (.str ">"))) (gName 1))
    (tRet (tTup (tCons (CwR.tReplC (tOp (rIxL K) (tVar 1) (tC (.int 0))) "-" "") (tCons (tC (.str ">")) (tCons (tCB rIntS (tCons (tOp (rIxL K) (tVar 1) (tC (.int 1))) tNil)) tNil)))))) tNext)
    (tRet (tTup (tCons (CwR.tReplC (tSl rSlS (tVar 0) tNoPart (tPart (tUn (rU fun i => .int (-i)) (tC (.int 1))))) "-" "") (tCons (tOp rIxS (tVar 0) (tUn (rU fun i => .int (-i)) (tC (.int 1)))) (tCons (tC .non) tNil))))))
def p_law_word (K : PySem.W.Frag) (cS cP : Addr) : Sp := spT 1 N_law_word (t_law_word K cS cP)
abbrev N_law_canon : List Str := ["_law_words", "_law_lengths", "_law_lost", "_law_parts", "_law_starts", "_law_at", "_law_k", "_law_letters_here", "_law_sign", "_law_goal", "_law_first", "_law_turn", "_law_names", "_law_cells", "_law_step", "_law_here", "_law_word_here", "_law_letter"]
def t_law_canon (K : PySem.W.Frag) (cS cP : Addr) (sp_law_word : Sp) : TS :=
  (tSeq (tAsg (tTup (tCons (tLc (iList K (tVar 0)) (gName 16) tYes (tCl sp_law_word (tCons (tVar 16) tNil)) [16]) (tCons (tLst tNil) (tCons (tC (.int 1)) (tCons (tC (.int 0)) tNil))))) (gTup K 4 (gCons (gName 3) (gCons (gName 4) (gCons (gName 5) (gCons (gName 6) gNil))))))
    (tSeq (tFor (iList K (tVar 3)) (gTup K 3 (gCons (gName 7) (gCons (gName 8) (gCons (gName 9) gNil))))
    (tSeq (tDrop (tBM K "list" rAppend (tVar 4) (tCons (tIf (tTest (tOp rEq (tVar 8) (tC (.str ">")))) (tVar 5) (tC (.int 0))) tNil)))
    (tIfS (tTest (tOp rEq (tVar 8) (tC (.str ">")))) (tPar 5 6 (tCons (tOp rAddI (tVar 5) (tOp (rIxL K) (tVar 1) (tVar 6))) (tCons (tOp rAddI (tVar 6) (tC (.int 1))) tNil))) tNext)))
    (tSeq (tAsg (tTup (tCons (tVar 5) (tCons (tOp rAddI (tVar 5) (tVar 2)) tNil))) (gTup K 2 (gCons (gName 10) (gCons (gName 5) gNil))))
    (tSeq (tFor (iRng1 (tCons (tCB (rLenQ K) (tCons (tVar 3) tNil)) tNil)) (gName 11)
    (tIfS (tTest (tOp rEq (tOp (rIxT K) (tOp (rIxL K) (tVar 3) (tVar 11)) (tC (.int 1))) (tC (.str "!")))) (tSeq (tAsg (tVar 5) (gSub (tVar 4) (tVar 11) rSetL))
    (tAsg (tOp rAddI (tVar 5) (tC (.int 1))) (gName 5))) tNext))
    (tSeq (tPar3 12 13 6 (tCons (tLst tNil) (tCons (tLst tNil) (tCons (tC (.int 0)) tNil))))
    (tSeq (tFor (iEnum K (tCons (tVar 3) tNil)) (gTup K 2 (gCons (gName 11) (gCons (gTup K 3 (gCons (gName 7) (gCons (gName 8) (gCons (gName 9) gNil)))) gNil)))
    (tSeq (tAsg (tOp rCat (tVar 12) (tLc (iStr (tVar 7)) (gName 17) tYes (tTup (tCons (tVar 17) (tCons (tOp (rIxL K) (tVar 4) (tVar 11)) tNil))) [17])) (gName 12))
    (tIfS (tTest (tOp rEq (tVar 8) (tC (.str ">")))) (tSeq (tFor (iRng1 (tCons (tOp (rIxL K) (tVar 1) (tVar 6)) tNil)) (gName 14)
    (tSeq (tAsg (tOp rAddI (tOp (rIxL K) (tVar 4) (tVar 11)) (tVar 14)) (gName 15))
    (tDrop (tBM K "list" rAppend (tVar 13) (tCons (tTup (tCons (tVar 15) (tCons (tIf (tTest (tOp rLtI (tOp rAddI (tVar 14) (tC (.int 1))) (tOp (rIxL K) (tVar 1) (tVar 6)))) (tOp rAddI (tVar 15) (tC (.int 1))) (tOp (rIxL K) (tVar 4) (tVar 9))) tNil))) tNil)))))
    (tAsg (tOp rAddI (tVar 6) (tC (.int 1))) (gName 6))) tNext)))
    (tRet (tTup (tCons (tCB (rTupF K) (tCons (tCB (rSortedN K) (tCons (tVar 12) tNil)) tNil)) (tCons (tCB (rTupF K) (tCons (tOp rCat (tCB (rSortedC K) (tCons (tVar 13) tNil)) (tLc (iRng1 (tCons (tVar 2) tNil)) (gName 14) tYes (tTup (tCons (tOp rAddI (tVar 10) (tVar 14)) (tCons (tC (.int 0)) tNil))) [14])) tNil)) tNil))))))))))
def p_law_canon (K : PySem.W.Frag) (cS cP : Addr) : Sp := spT 3 N_law_canon (t_law_canon K cS cP (p_law_word K cS cP))
abbrev N_law_right : List Str := ["_law_jug_here", "_law_letters_here", "_law_names", "_law_cells", "_law_made", "_law_words", "_law_lengths", "_law_lost", "_law_stretches", "_law_knots_here", "_law_told", "_law_due", "_law_heads", "_law_laid", "_law_others", "_law_far_names", "_law_far_cells", "_law_few", "_law_is_same", "_law_answers", "_law_line"]
def t_law_right (K : PySem.W.Frag) (cS cP : Addr) (sp_law_letters sp_law_take sp_law_drawn_store sp_law_one_of sp_Store_init sp_law_plan sp_stretches_of sp_knots_of sp_plan_of sp_law_plan_text sp_Plan_text sp_Plan_size sp_law_canon sp_tidy sp_are_alike sp_Plan_eq : Sp) : TS :=
  (tSeq (tAsg (tCl sp_law_letters (tCons (tVar 0) (tCons (tOp rAddI (tC (.int 1)) (tCl sp_law_take (tCons (tVar 0) (tCons (tC (.int 4)) tNil)))) tNil))) (gName 1))
    (tSeq (tAsg (tCl sp_law_drawn_store (tCons (tVar 0) (tCons (tVar 1) (tCons (tCl sp_law_one_of (tCons (tVar 0) (tCons (tLst (tCons (tC (.int 4)) (tCons (tC (.int 7)) (tCons (tC (.int 12)) tNil)))) tNil))) tNil)))) (gTup K 2 (gCons (gName 2) (gCons (gName 3) gNil))))
    (tSeq (tAsg (tMake cS sp_Store_init [] E0 (tCons (tVar 2) (tCons (tVar 3) tNil))) (gName 4))
    (tSeq (tAsg (tCl sp_law_plan (tCons (tVar 2) (tCons (tVar 3) tNil))) (gTup K 5 (gCons (gName 5) (gCons (gName 6) (gCons (gName 7) (gCons (gName 8) (gCons (gName 9) gNil)))))))
    (tSeq (tIfS (tTest (tOp rNe (tCB (rReprD K) (tCons (tLst (tCons (tCl sp_knots_of (tCons (tVar 4) tNil)) (tCons (tCl sp_stretches_of (tCons (tVar 4) tNil)) tNil))) tNil)) (tCB (rReprD K) (tCons (tLst (tCons (tCB (rTupF K) (tCons (tVar 9) tNil)) (tCons (tCB (rTupF K) (tCons (tLc (iList K (tVar 8)) (gName 20) tYes (tCB (rTupF K) (tCons (tVar 20) tNil)) [20]) tNil)) tNil))) tNil)))) (tRet (tC (.bl false))) tNext)
    (tSeq (tIfS (tTest (tOp rNe (tCB (rReprD K) (tCons (tLst (tCons (tKw 1 false sp_knots_of (tCons (tVar 4) tNil)) (tCons (tKw 1 false sp_stretches_of (tCons (tVar 4) tNil)) tNil))) tNil)) (tCB (rReprD K) (tCons (tLst (tCons (tCl sp_knots_of (tCons (tVar 4) tNil)) (tCons (tCl sp_stretches_of (tCons (tVar 4) tNil)) tNil))) tNil)))) (tRet (tC (.bl false))) tNext)
    (tSeq (tAsg (tCl sp_plan_of (tCons (tVar 4) tNil)) (gName 10))
    (tSeq (tAsg (tLst (tCons (tM1 (rJoin K) (tC (.str " ")) (tVar 5)) (tCons (tCB (rTupF K) (tCons (tVar 6) tNil)) (tCons (tVar 7) (tCons (tCB (rLenQ K) (tCons (tVar 3) tNil)) (tCons (tM1 (rJoin K) (tC (.str "")) (tVar 1)) (tCons (tCl sp_law_plan_text (tCons (tVar 5) (tCons (tVar 6) (tCons (tVar 7) tNil)))) tNil))))))) (gName 11))
    (tSeq (tIfS (tTest (tOp rNe (tCB (rReprD K) (tCons (tLst (tCons (tFld K (tVar 10) "shape") (tCons (tFld K (tVar 10) "lengths") (tCons (tFld K (tVar 10) "lost") (tCons (tProp cP sp_Plan_size [] E0 (tVar 10)) (tCons (tFld K (tVar 10) "letters") (tCons (tProp cP sp_Plan_text [] E0 (tVar 10)) tNil))))))) tNil)) (tCB (rReprD K) (tCons (tVar 11) tNil)))) (tRet (tC (.bl false))) tNext)
    (tSeq (tAsg (tCl sp_law_canon (tCons (tVar 5) (tCons (tVar 6) (tCons (tVar 7) tNil)))) (gTup K 2 (gCons (gName 12) (gCons (gName 13) gNil))))
    (tSeq (tIfS (tTest (tOp rNe (tCB (rReprD K) (tCons (tLst (tCons (tFld K (tCl sp_tidy (tCons (tVar 4) tNil)) "names") (tCons (tFld K (tCl sp_tidy (tCons (tVar 4) tNil)) "cells") (tCons (tProp cP sp_Plan_text [] E0 (tKw 1 false sp_plan_of (tCons (tKw 1 false sp_tidy (tCons (tVar 4) tNil)) tNil))) tNil)))) tNil)) (tCB (rReprD K) (tCons (tLst (tCons (tVar 12) (tCons (tVar 13) (tCons (tOp (rIxL K) (tVar 11) (tC (.int 5))) tNil)))) tNil)))) (tRet (tC (.bl false))) tNext)
    (tSeq (tAsg (tIf (tTest (tOp rGtI (tCl sp_law_take (tCons (tVar 0) (tCons (tC (.int 3)) tNil))) (tC (.int 0)))) (tVar 1) (tCl sp_law_letters (tCons (tVar 0) (tCons (tCB (rLenQ K) (tCons (tVar 1) tNil)) tNil)))) (gName 14))
    (tSeq (tAsg (tCl sp_law_drawn_store (tCons (tVar 0) (tCons (tVar 14) (tCons (tC (.int 3)) tNil)))) (gTup K 2 (gCons (gName 15) (gCons (gName 16) gNil))))
    (tSeq (tAsg (tIf (tTest (tOp rEq (tCl sp_law_take (tCons (tVar 0) (tCons (tC (.int 2)) tNil))) (tC (.int 0)))) (tMake cS sp_Store_init [] E0 (tCons (tVar 2) (tCons (tSl (rSlF K) (tVar 3) tNoPart (tPart (tUn (rU fun i => .int (-i)) (tC (.int 1))))) tNil))) (tMake cS sp_Store_init [] E0 (tCons (tVar 15) (tCons (tVar 16) tNil)))) (gName 17))
    (tSeq (tAsg (tOp (rEqD K) (tSl (rSlF K) (tCl sp_law_plan (tCons (tFld K (tVar 17) "names") (tCons (tFld K (tVar 17) "cells") tNil))) tNoPart (tPart (tC (.int 3)))) (tTup (tCons (tVar 5) (tCons (tVar 6) (tCons (tVar 7) tNil))))) (gName 18))
    (tSeq (tAsg (tLst (tCons (tCl sp_are_alike (tCons (tVar 4) (tCons (tVar 17) tNil))) (tCons (tCl sp_are_alike (tCons (tVar 17) (tCons (tVar 4) tNil))) (tCons (tOp (rPeq cP sp_Plan_eq) (tCl sp_plan_of (tCons (tVar 17) tNil)) (tVar 10)) (tCons (tKw 2 true sp_are_alike (tCons (tCl sp_tidy (tCons (tVar 4) tNil)) (tCons (tVar 4) tNil))) tNil))))) (gName 19))
    (tRet (tAndV (tOp rEq (tCB (rReprD K) (tCons (tVar 19) tNil)) (tCB (rReprD K) (tCons (tLst (tCons (tVar 18) (tCons (tVar 18) (tCons (tVar 18) (tCons (tC (.bl true)) tNil))))) tNil))) (tOp (rEqD K) (tFld K (tVar 4) "cells") (tVar 3))))))))))))))))))))
def p_law_right (K : PySem.W.Frag) (cS cP : Addr) : Sp := spT 1 N_law_right (t_law_right K cS cP (p_law_letters K cS cP) (p_law_take K cS cP) (p_law_drawn_store K cS cP) (p_law_one_of K cS cP) (p_Store_init K cS cP) (p_law_plan K cS cP) (p_stretches_of K cS cP) (p_knots_of K cS cP) (p_plan_of K cS cP) (p_law_plan_text K cS cP) (p_Plan_text K cS cP) (p_Plan_size K cS cP) (p_law_canon K cS cP) (p_tidy K cS cP) (p_are_alike K cS cP) (p_Plan_eq K cS cP))
abbrev N_law : List Str := ["_law_script", "_law_turn"]
def t_law (K : PySem.W.Frag) (cS cP : Addr) (sp_law_right sp_law_jug : Sp) : TS :=
  (tRet (tCB (rAll K) (tCons (tLc (iRng1 (tCons (tCB rMax2 (tCons (tC (.int 3)) (tCons (tCB rMin2 (tCons (tCB (rLenQ K) (tCons (tVar 0) tNil)) (tCons (tC (.int 6)) tNil))) tNil))) tNil)) (gName 1) tYes (tCl sp_law_right (tCons (tCl sp_law_jug (tCons (tVar 0) (tCons (tVar 1) tNil))) tNil)) [1]) tNil)))
def p_law (K : PySem.W.Frag) (cS cP : Addr) : Sp := spT 1 N_law (t_law K cS cP (p_law_right K cS cP) (p_law_jug K cS cP))
end K07
end

section -- P1
set_option Elab.async false
set_option linter.all false
set_option maxRecDepth 100000
set_option maxHeartbeats 4000000
set_option autoImplicit false
namespace Z
open PySem PySem.Spec L2 K07
open M7 (Names Cells Kn Kd)
abbrev J0 : Addr → Prop := fun _ => False
/-- a promise, whatever stands -/
def Pu0 (sp : Sp) (Rs : List Rp) (R : Rp) : Prop := ∀ vs w, AllR w.f Rs vs → ∀ Q : VK, (∀ v w', Le J0 w w' → R.r w'.f v → Q v w'.h) → sp vs w.h Q E0
theorem Pu0.pu {J : Addr → Prop} {sp : Sp} {Rs : List Rp} {R : Rp} {w : Wd} (h : Pu0 sp Rs R) : Pu J sp w Rs R := fun vs w' _ a Q q => h vs w' a Q fun v w2 e r => q v w2 e.any r
theorem pu_of {n : Nat} {N : List Str} {t : TS} {Rs : List Rp} {R : Rp} (hn : Rs.length = n) (h : ∀ vs w, AllR w.f Rs vs → ∀ Q : VK, (∀ v w', Le J0 w w' → R.r w'.f v → Q v w'.h) → t { nx := fun _ H' => Q .non H', rt := Q } (start N vs) w.h) : Pu0 (spT n N t) Rs R :=
  fun vs w a Q q => ⟨by rw [a.len, hn], h vs w a Q q⟩
theorem pu_1 {N : List Str} {t : TS} {A R : Rp} (h : ∀ v w, A.r w.f v → ∀ Q : VK, (∀ v w', Le J0 w w' → R.r w'.f v → Q v w'.h) → t { nx := fun _ H' => Q .non H', rt := Q } (start N [v]) w.h) : Pu0 (spT 1 N t) [A] R :=
  pu_of rfl fun vs w a Q q => by
    obtain ⟨v, ws, rfl, h1, a⟩ := a.cons_inv
    cases a.nil_inv
    exact h v w h1 Q q
theorem pu_2 {N : List Str} {t : TS} {A B R : Rp} (h : ∀ v u w, A.r w.f v → B.r w.f u → ∀ Q : VK, (∀ v w', Le J0 w w' → R.r w'.f v → Q v w'.h) → t { nx := fun _ H' => Q .non H', rt := Q } (start N [v, u]) w.h) : Pu0 (spT 2 N t) [A, B] R :=
  pu_of rfl fun vs w a Q q => by
    obtain ⟨v, ws, rfl, h1, a⟩ := a.cons_inv
    obtain ⟨u, ws, rfl, h2, a⟩ := a.cons_inv
    cases a.nil_inv
    exact h v u w h1 h2 Q q
theorem pu_3 {N : List Str} {t : TS} {A B C R : Rp} (h : ∀ v u x w, A.r w.f v → B.r w.f u → C.r w.f x → ∀ Q : VK, (∀ v w', Le J0 w w' → R.r w'.f v → Q v w'.h) → t { nx := fun _ H' => Q .non H', rt := Q } (start N [v, u, x]) w.h) : Pu0 (spT 3 N t) [A, B, C] R :=
  pu_of rfl fun vs w a Q q => by
    obtain ⟨v, ws, rfl, h1, a⟩ := a.cons_inv
    obtain ⟨u, ws, rfl, h2, a⟩ := a.cons_inv
    obtain ⟨x, ws, rfl, h3, a⟩ := a.cons_inv
    cases a.nil_inv
    exact h v u x w h1 h2 h3 Q q
section
variable {J : Addr → Prop} {σ : St} {w : Wd} {ta tb tc te : TE} {R : Rp} {K : PySem.W.Frag}
/-- a test that does not hold, and nothing else -/
theorem st_skip {tt : TT} {sa rest : TS} {D : Ends} (h : EvB J tt σ w false) (k : ∀ w', Le J w w' → rest D σ w'.h) : tSeq (tIfS tt sa tNext) rest D σ w.h := h w .rfl _ fun b w' e p => by
  subst p
  exact k w' e
theorem ev_isi {c : V} {t u : Value} {b : Bool} (ha : Ev J ta σ w R) (hb : Ev J tb σ w (Is c)) (hc : ClsV c u) (hx : ∀ (w' : Wd) (v : V), R.r w'.f v → TyX K w'.h v t) (hk : PySem.W.kitOne K t u = some b) : Ev J (tCB (rIsi K) (tCons ta (tCons tb tNil))) σ w (RB b) := fun w' e Q q =>
  ha w' e _ fun v w1 e1 r1 => hb w1 (e.trans e1) _ fun v2 w2 e2 r2 => by
    subst r2
    exact ⟨v, v2, t, u, b, rfl, hc, hx w2 v (R.mono e2.ef r1), hk, q _ w2 (e1.trans e2) rfl⟩
theorem ev_chain {a b c : Int} {x y z : Bool} (ha : Ev J ta σ w (RI a)) (hb : Ev J tb σ w (RI b)) (hc : Ev J tc σ w (RI c)) (e1 : decide (a ≤ b) = x) (e2 : decide (b ≤ c) = y) (e3 : (x && y) = z) : Ev J (tChain rLeI rLeI ta tb tc) σ w (RB z) := fun w' e Q q =>
  ha w' e _ fun v w1 g1 r1 => hb w1 (e.trans g1) _ fun v2 w2 g2 r2 => by
    have r1 := r1
    cases r1
    cases r2
    refine ⟨a, b, rfl, rfl, x, congrArg V.bl e1, ?_⟩
    subst e3
    cases x with
    | true =>
      refine hc w2 ((e.trans g1).trans g2) _ fun v3 w3 g3 r3 => ?_
      cases r3
      exact ⟨b, c, rfl, rfl, q _ w3 ((g1.trans g2).trans g3) (congrArg V.bl e2)⟩
    | false => exact q _ w2 (g1.trans g2) rfl
theorem ev_leS {a b : Str} {c : Bool} (ha : Ev J ta σ w (RS a)) (hb : Ev J tb σ w (RS b)) (hc : (!decide (b.cps.toList < a.cps.toList)) = c) : Ev J (tOp rLeS ta tb) σ w (RB c) :=
  ev_op ha hb fun x y w' _ hx hy Q q => ⟨a, b, hx, hy, q _ w' .rfl (by rw [hc]; rfl)⟩
theorem ev_inS {c : Nat} {z : Str} {b : Bool} (ha : Ev J ta σ w (RS ⟨#[c]⟩)) (hb : Ev J tb σ w (RS z)) (hc : decide (c ∈ z.cps.toList) = b) : Ev J (tOp rInS ta tb) σ w (RB b) :=
  ev_op ha hb fun x y w' _ hx hy Q q => ⟨c, z, hx, hy, q _ w' .rfl (by rw [hc]; rfl)⟩
theorem ev_ninS {c : Nat} {z : Str} {b : Bool} (ha : Ev J ta σ w (RS ⟨#[c]⟩)) (hb : Ev J tb σ w (RS z)) (hc : (!decide (c ∈ z.cps.toList)) = b) : Ev J (tOp rNotInS ta tb) σ w (RB b) :=
  ev_op ha hb fun x y w' _ hx hy Q q => ⟨c, z, hx, hy, q _ w' .rfl (by rw [hc]; rfl)⟩
end
/-! ### the store's words -/
def chr (c : Nat) : Str := ⟨#[c]⟩
def ltr (l : List Nat) : Str := ⟨l.toArray⟩
def nmD (q : Nat × Int) : PyData := .tuple [.str (chr q.1), .int q.2]
def clD (q : Int × Int) : PyData := .tuple [.int q.1, .int q.2]
structure VN (ns : Names) : Prop where
  one : 1 ≤ ns.length
  four : ns.length ≤ 4
  let_ : ∀ q ∈ ns, 97 ≤ q.1 ∧ q.1 ≤ 122
  asc : ns.Pairwise fun a b => a.1 < b.1
  pl : ∀ q ∈ ns, 0 ≤ q.2 ∧ q.2 ≤ 999
structure VC (cs : Cells) : Prop where
  few : cs.length ≤ 60
  asc : cs.Pairwise fun a b => a.1 < b.1
  pos : ∀ q ∈ cs, 0 < q.1 ∧ q.1 ≤ 999 ∧ 0 ≤ q.2 ∧ q.2 ≤ 999
def kvsOf (cs : Cells) : List (Key × V) := cs.map fun q => (Sum.inl q.1, V.int q.2)
def StoR (K : PySem.W.Frag) (cS : Addr) (ns : Names) (cs : Cells) : Rp := ⟨fun f v => ∃ a dx fs vn vc da, v = .ref a ∧ f a = some (.ins cS dx fs) ∧ fs.lookup ("names" : Str) = some vn ∧ (TupD K (ns.map nmD)).r f vn ∧ fs.lookup ("cells" : Str) = some vc ∧ (TupD K (cs.map clD)).r f vc ∧
    fs.lookup ("arrows" : Str) = some (.ref da) ∧ f da = some (.dK (kvsOf cs)), fun e ⟨a, dx, fs, vn, vc, da, h1, h2, h3, h4, h5, h6, h7, h8⟩ => ⟨a, dx, fs, vn, vc, da, h1, e _ _ h2, h3, Rp.mono _ e h4, h5, Rp.mono _ e h6, h7, e _ _ h8⟩⟩
theorem kit_of (K : PySem.W.Frag) {a b : String} {r : Bool} (h : PySem.W.kitOne K (.type a) (.type b) = some r) : PySem.W.kitOne K (.type a) (.type b) = some r := h
theorem ty_int {K : PySem.W.Frag} {i : Int} (w : Wd) (v : V) (h : (RI i).r w.f v) : TyX K w.h v (.type "int") := by
  cases h
  exact .base (.int i)
theorem ty_str {K : PySem.W.Frag} {i : Str} (w : Wd) (v : V) (h : (RS i).r w.f v) : TyX K w.h v (.type "str") := by
  cases h
  exact .base (.str i)
theorem ty_tup {K : PySem.W.Frag} {Rs : List Rp} (w : Wd) (v : V) (h : (TupR K Rs).r w.f v) : TyX K w.h v (.type "tuple") := by
  obtain ⟨a, xs, rfl, h1, h2⟩ := h
  rcases sqT_h w h1 with (h | ⟨o, h⟩) | ⟨o, its, n, h, hc, _⟩
  · exact .base (.tup h)
  · exact .fTuple h
  · exact .kTuple h hc
theorem ev_tupR {J : Addr → Prop} {σ : St} {w : Wd} {t : TE} {K : PySem.W.Frag} {ds : List PyData} (h : Ev J t σ w (Dat K (.tuple ds))) : Ev J t σ w (TupR K (ds.map (Dat K))) := h.imp fun _ _ _ r => tup_dat.mpr r
theorem ev_lstR {J : Addr → Prop} {σ : St} {w : Wd} {t : TE} {K : PySem.W.Frag} {ds : List PyData} (h : Ev J t σ w (Dat K (.list ds))) : Ev J t σ w (LstR K (ds.map (Dat K))) := h.imp fun _ _ _ r => lst_dat.mpr r
theorem ev_lstD {J : Addr → Prop} {σ : St} {w : Wd} {t : TE} {K : PySem.W.Frag} {ds : List PyData} (h : Ev J t σ w (LstR K (ds.map (Dat K)))) : Ev J t σ w (Dat K (.list ds)) := h.imp fun _ _ _ r => lst_dat.mp r
theorem ev_tupD {J : Addr → Prop} {σ : St} {w : Wd} {t : TE} {K : PySem.W.Frag} {ds : List PyData} (h : Ev J t σ w (TupR K (ds.map (Dat K)))) : Ev J t σ w (Dat K (.tuple ds)) := h.imp fun _ _ _ r => tup_dat.mp r
theorem ev_dI {J : Addr → Prop} {σ : St} {w : Wd} {t : TE} {K : PySem.W.Frag} {i : Int} (h : Ev J t σ w (Dat K (.int i))) : Ev J t σ w (RI i) := h.imp fun _ _ _ r => dat_int.mp r
theorem ev_Id {J : Addr → Prop} {σ : St} {w : Wd} {t : TE} {K : PySem.W.Frag} {i : Int} (h : Ev J t σ w (RI i)) : Ev J t σ w (Dat K (.int i)) := h.imp fun _ _ _ r => dat_int.mpr r
theorem ev_dS {J : Addr → Prop} {σ : St} {w : Wd} {t : TE} {K : PySem.W.Frag} {i : Str} (h : Ev J t σ w (Dat K (.str i))) : Ev J t σ w (RS i) := h.imp fun _ _ _ r => dat_str.mp r
theorem ev_Sd {J : Addr → Prop} {σ : St} {w : Wd} {t : TE} {K : PySem.W.Frag} {i : Str} (h : Ev J t σ w (RS i)) : Ev J t σ w (Dat K (.str i)) := h.imp fun _ _ _ r => dat_str.mpr r
section
variable (K : PySem.W.Frag) (cS cP : Addr)
theorem pu_is_whole (i : Int) : Pu0 (p_is_whole K cS cP) [RI i] (RB true) := pu_1 fun v w h Q q => by
  cases h
  exact st_ret (ev_andV (a := true) (b := true) (ev_isi (c := .ty "int") (t := .type "int") (ev_is rfl) ev_cv (.ty _) ty_int rfl)
    (fun _ => ev_notV (a := false) (ev_isi (c := .ty "bool") (t := .type "int") (ev_is rfl) ev_cv (.ty _) ty_int rfl) rfl) rfl) q
theorem pu_is_between (i a b : Int) : Pu0 (p_is_between K cS cP) [RI i, RI a, RI b] (RB (decide (a ≤ i) && decide (i ≤ b))) := pu_3 fun v u x w h1 h2 h3 Q q => by
  cases h1
  cases h2
  cases h3
  exact st_ret (ev_andV (a := true) (ev_cl (ea_cons (ev_is rfl) ea_nil) (pu_is_whole K cS cP i).pu) (fun _ => ev_andV (ev_op0 (ev_is rfl) (ev_is rfl)) (fun _ => ev_op0 (ev_is rfl) (ev_is rfl)) rfl) rfl) q
theorem pu_is_place (i : Int) (h0 : 0 ≤ i) (h1 : i ≤ 999) : Pu0 (p_is_place K cS cP) [RI i] (RB true) := pu_1 fun v w h Q q => by
  cases h
  have e : (decide ((0 : Int) ≤ i) && decide (i ≤ 999)) = true := by simp [h0, h1]
  exact st_ret ((ev_cl (ea_cons (ev_is rfl) (ea_cons ev_cv (ea_cons ev_cv ea_nil))) (pu_is_between K cS cP i 0 999).pu).of (by rw [e])) q
theorem let_mem {c : Nat} (h0 : 97 ≤ c) (h1 : c ≤ 122) : decide (c ∈ LET.cps.toList) = true := by
  have : LET.cps.toList = List.range' 97 26 := by decide +kernel
  rw [this, decide_eq_true_eq, List.mem_range'_1]
  omega
theorem pu_is_letter (c : Nat) (h0 : 97 ≤ c) (h1 : c ≤ 122) : Pu0 (p_is_letter K cS cP) [RS (chr c)] (RB true) := pu_1 fun v w h Q q => by
  cases h
  exact st_ret (ev_andV (a := true) (b := true) (ev_isi (c := .ty "str") (t := .type "str") (ev_is rfl) ev_cv (.ty _) ty_str rfl)
    (fun _ => ev_andV (a := true) (b := true) (ev_eq (ev_lenS (z := chr c) (ev_is rfl) (by show (1 : Nat) ≤ sizeLine; decide)) ev_cv rfl rfl) (fun _ => ev_inS (ev_is rfl) ev_cv (let_mem h0 h1)) rfl) rfl) q
theorem pu_is_pair (Ra Rb : Rp) : Pu0 (p_is_pair K cS cP) [TupR K [Ra, Rb]] (RB true) := pu_1 fun v w h Q q => by
  have hv : Ev J0 (tVar 0) (start N_is_pair [v]) w (TupR K [Ra, Rb]) := ev_var (v := v) rfl h
  exact st_ret (ev_andV (a := true) (b := true) (ev_isi (c := .ty "tuple") (t := .type "tuple") hv ev_cv (.ty _) ty_tup rfl) (fun _ => ev_eq (ev_lenT hv) ev_cv rfl rfl) rfl) q
end
/-- a store's names as an argument -/
def nmR (K : PySem.W.Frag) (q : Nat × Int) : Rp := TupR K [RS (chr q.1), RI q.2]
def clR (K : PySem.W.Frag) (q : Int × Int) : Rp := TupR K [RI q.1, RI q.2]
theorem allR_imp {f : Hp} {Rs Ss : List Rp} (hl : Rs.length = Ss.length) (h : ∀ (i : Nat) (A B : Rp) (v : V), Rs[i]? = some A → Ss[i]? = some B → A.r f v → B.r f v) : ∀ {vs : List V}, AllR f Rs vs → AllR f Ss vs := by
  induction Rs generalizing Ss with
  | nil =>
    intro vs a
    cases Ss with
    | nil => exact a
    | cons B Ss => simp at hl
  | cons A Rs ih =>
    intro vs a
    cases Ss with
    | nil => simp at hl
    | cons B Ss =>
      obtain ⟨v, ws, rfl, h1, h2⟩ := a.cons_inv
      exact ⟨h 0 A B v rfl rfl h1, ih (by simpa using hl) (fun i A' B' v' e1 e2 => h (i + 1) A' B' v' (by simpa using e1) (by simpa using e2)) h2⟩
theorem tupR_map {α : Type} {K : PySem.W.Frag} {f : Hp} {v : V} {l : List α} {A B : α → Rp} (h : ∀ x ∈ l, ∀ u, (A x).r f u → (B x).r f u) (r : (TupR K (l.map A)).r f v) : (TupR K (l.map B)).r f v := by
  obtain ⟨a, xs, h1, h2, h3⟩ := r
  refine ⟨a, xs, h1, h2, allR_imp (by simp) (fun i X Y u e1 e2 q => ?_) h3⟩
  rw [List.getElem?_map] at e1 e2
  cases e : l[i]? with
  | none => rw [e] at e1; simp at e1
  | some x =>
    rw [e] at e1 e2
    simp at e1 e2
    subst e1 e2
    exact h x (List.mem_of_getElem? e) u q
theorem lstR_map {α : Type} {K : PySem.W.Frag} {f : Hp} {v : V} {l : List α} {A B : α → Rp} (h : ∀ x ∈ l, ∀ u, (A x).r f u → (B x).r f u) (r : (LstR K (l.map A)).r f v) : (LstR K (l.map B)).r f v := by
  obtain ⟨a, xs, h1, h2, h3⟩ := r
  refine ⟨a, xs, h1, h2, allR_imp (by simp) (fun i X Y u e1 e2 q => ?_) h3⟩
  rw [List.getElem?_map] at e1 e2
  cases e : l[i]? with
  | none => rw [e] at e1; simp at e1
  | some x =>
    rw [e] at e1 e2
    simp at e1 e2
    subst e1 e2
    exact h x (List.mem_of_getElem? e) u q
theorem two_dat {K : PySem.W.Frag} {f : Hp} {v : V} {A B : PyData} {R S : Rp} (h1 : ∀ u, (Dat K A).r f u → R.r f u) (h2 : ∀ u, (Dat K B).r f u → S.r f u) (r : (Dat K (.tuple [A, B])).r f v) : (TupR K [R, S]).r f v := by
  obtain ⟨a, xs, e1, e2, e3⟩ := tup_dat.mpr r
  obtain ⟨x, xs, rfl, hx, e3⟩ := e3.cons_inv
  obtain ⟨y, xs, rfl, hy, e3⟩ := e3.cons_inv
  cases e3.nil_inv
  exact ⟨a, _, e1, e2, h1 x hx, h2 y hy, trivial⟩
theorem nm_of {K : PySem.W.Frag} {f : Hp} {q : Nat × Int} {v : V} (h : (Dat K (nmD q)).r f v) : (nmR K q).r f v := two_dat (fun _ => dat_str.mp) (fun _ => dat_int.mp) h
theorem cl_of {K : PySem.W.Frag} {f : Hp} {q : Int × Int} {v : V} (h : (Dat K (clD q)).r f v) : (clR K q).r f v := two_dat (fun _ => dat_int.mp) (fun _ => dat_int.mp) h
theorem nms_of {K : PySem.W.Frag} {f : Hp} {ns : Names} {v : V} (h : (TupD K (ns.map nmD)).r f v) : (TupR K (ns.map (nmR K))).r f v := by
  have h2 := tup_dat.mpr (TupD.dat h)
  rw [List.map_map] at h2
  exact tupR_map (fun x _ u => nm_of) h2
theorem cls_of {K : PySem.W.Frag} {f : Hp} {cs : Cells} {v : V} (h : (TupD K (cs.map clD)).r f v) : (TupR K (cs.map (clR K))).r f v := by
  have h2 := tup_dat.mpr (TupD.dat h)
  rw [List.map_map] at h2
  exact tupR_map (fun x _ u => cl_of) h2
theorem getD_map {α : Type} {l : List α} {A : α → Rp} {i : Nat} (hi : i < l.length) : (l.map A).getD i (Is .non) = A l[i] := by
  rw [List.getD_eq_getElem?_getD, List.getElem?_map, List.getElem?_eq_getElem hi]
  rfl
def lastS (ns : Names) : Nat → Str
  | 0 => ""
  | i + 1 => chr ((ns[i]?.map (·.1)).getD 0)
def lastC (cs : Cells) : Nat → Int
  | 0 => 0
  | i + 1 => (cs[i]?.map (·.1)).getD 0
theorem lt_one {a b : Nat} : (decide ((chr a).cps.toList < (chr b).cps.toList)) = decide (a < b) := by
  show decide ([a] < [b]) = decide (a < b)
  simp [List.cons_lt_cons_iff]
section
variable (K : PySem.W.Frag) (cS cP : Addr)
theorem pu_are_name_pairs {ns : Names} (vn : VN ns) : Pu0 (p_are_name_pairs K cS cP) [TupR K (ns.map (nmR K))] (RB true) := pu_1 fun v w h Q q => by
  have h1 := vn.one
  have h4 := vn.four
  have hv : Ev J0 (tVar 0) (start N_are_name_pairs [v]) w (TupR K (ns.map (nmR K))) := ev_var (v := v) rfl h
  refine st_skip (et_or (a := false) (b := false) (et_not (b := true) (et_b (ev_isi (c := .ty "tuple") (t := .type "tuple") hv ev_cv (.ty _) ty_tup rfl)) rfl)
    (fun _ => et_not (b := true) (et_test (ev_chain (x := true) (y := true) ev_cv (ev_lenT hv) ev_cv (by simp; omega) (by simp; omega) rfl)) rfl) rfl) fun w1 e1 => ?_
  refine st_asg (J := J0) (R := RS "") ev_cv fun v2 w2 e2 r2 => ?_
  cases r2
  have hv2 : Ev J0 (tVar 0) [some v, some (.str ""), none] w2 (TupR K (ns.map (nmR K))) := ev_var (v := v) rfl (Rp.mono _ (e1.trans e2).ef h)
  refine st_for (src_tup hv2) (fun i σ1 w3 => Le J0 w w3 ∧ ∃ x, σ1 = [some v, some (.str (lastS ns i)), x]) (fun w3 e3 => ⟨(e1.trans e2).trans e3, none, rfl⟩) ?_ ?_
  · rintro i σ1 w3 hi ⟨l3, x, rfl⟩ y w4 e4 hy Kk hK
    have hi' : i < ns.length := by simpa using hi
    rw [getD_map hi'] at hy
    have hq := List.getElem_mem hi'
    show tSeq _ _ _ [some v, some (V.str (lastS ns i)), some y] w4.h
    have hy2 : Ev J0 (tVar 2) [some v, some (V.str (lastS ns i)), some y] w4 (nmR K ns[i]) := ev_var (v := y) rfl hy
    have g0 : Ev J0 (tOp (rIxT K) (tVar 2) (tC (.int 0))) [some v, some (V.str (lastS ns i)), some y] w4 (RS (chr ns[i].1)) := ev_ixT (n := 0) hy2 ev_cv rfl
    have g1 : Ev J0 (tOp (rIxT K) (tVar 2) (tC (.int 1))) [some v, some (V.str (lastS ns i)), some y] w4 (RI ns[i].2) := ev_ixT (n := 1) hy2 ev_cv rfl
    have hlt : (!decide ((lastS ns i).cps.toList < (chr ns[i].1).cps.toList)) = false := by
      cases i with
      | zero => rfl
      | succ j =>
        have hj : j < ns.length := by omega
        have e : lastS ns (j + 1) = chr ns[j].1 := by simp [lastS, hj]
        rw [e, lt_one]
        have := List.pairwise_iff_getElem.mp vn.asc j (j + 1) hj hi' (by omega)
        simpa using this
    refine st_skip (et_or (a := false) (b := false) (et_not (b := true) (et_b (ev_cl (ea_cons hy2 ea_nil) (pu_is_pair K cS cP _ _).pu)) rfl)
      (fun _ => et_or (a := false) (b := false) (et_not (b := true) (et_b (ev_cl (ea_cons g0 ea_nil) (pu_is_letter K cS cP _ (vn.let_ _ hq).1 (vn.let_ _ hq).2).pu)) rfl)
      (fun _ => et_or (a := false) (b := false) (et_not (b := true) (et_b (ev_cl (ea_cons g1 ea_nil) (pu_is_place K cS cP _ (vn.pl _ hq).1 (vn.pl _ hq).2).pu)) rfl)
      (fun _ => et_test (ev_leS g0 (ev_is rfl) hlt)) rfl) rfl) rfl) fun w5 e5 => ?_
    refine st_asg (g0.le e5) fun v6 w6 e6 r6 => ?_
    cases r6
    refine hK _ w6 (fun p o h => ((e4.trans e5).trans e6).ef p o h) ⟨((l3.trans e4).trans e5).trans e6, some y, ?_⟩
    simp [lastS, hi']
  · rintro σ1 w3 ⟨l3, x, rfl⟩
    exact q (.bl true) w3 l3 rfl
theorem pu_check_cells {cs : Cells} (vc : VC cs) : Pu0 (p_check_cells K cS cP) [TupR K (cs.map (clR K))] (Is .non) := pu_1 fun v w h Q q => by
  have hf := vc.few
  have hv : Ev J0 (tVar 0) (start N_check_cells [v]) w (TupR K (cs.map (clR K))) := ev_var (v := v) rfl h
  refine st_skip (et_not (b := true) (et_b (ev_isi (c := .ty "tuple") (t := .type "tuple") hv ev_cv (.ty _) ty_tup rfl)) rfl) fun w1 e1 => ?_
  refine st_asg (J := J0) (R := RI 0) ev_cv fun v2 w2 e2 r2 => ?_
  cases r2
  have hv2 : Ev J0 (tVar 0) [some v, some (.int 0), none, none] w2 (TupR K (cs.map (clR K))) := ev_var (v := v) rfl (Rp.mono _ (e1.trans e2).ef h)
  refine st_for (src_enumT hv2) (fun i σ1 w3 => Le J0 w w3 ∧ ∃ x z, σ1 = [some v, some (.int (lastC cs i)), x, z]) (fun w3 e3 => ⟨(e1.trans e2).trans e3, none, none, rfl⟩) ?_ ?_
  · rintro i σ1 w3 hi ⟨l3, x, z, rfl⟩ y w4 e4 hy Kk hK
    have hi' : i < cs.length := by simpa using hi
    rw [getD_map hi'] at hy
    have hq := List.getElem_mem hi'
    refine g_two hy fun a b ha hb => ?_
    cases ha
    show tSeq _ _ _ [some v, some (V.int (lastC cs i)), some (.int i), some b] w4.h
    have hb2 : Ev J0 (tVar 3) [some v, some (V.int (lastC cs i)), some (.int i), some b] w4 (clR K cs[i]) := ev_var (v := b) rfl hb
    have g0 : Ev J0 (tOp (rIxT K) (tVar 3) (tC (.int 0))) [some v, some (V.int (lastC cs i)), some (.int i), some b] w4 (RI cs[i].1) := ev_ixT (n := 0) hb2 ev_cv rfl
    have g1 : Ev J0 (tOp (rIxT K) (tVar 3) (tC (.int 1))) [some v, some (V.int (lastC cs i)), some (.int i), some b] w4 (RI cs[i].2) := ev_ixT (n := 1) hb2 ev_cv rfl
    have hp := vc.pos _ hq
    have hlt : (decide (cs[i].1 ≤ lastC cs i)) = false := by
      cases i with
      | zero => exact decide_eq_false (by show ¬ cs[0].1 ≤ 0; omega)
      | succ j =>
        have hj : j < cs.length := by omega
        have e : lastC cs (j + 1) = cs[j].1 := by simp [lastC, hj]
        rw [e]
        have := List.pairwise_iff_getElem.mp vc.asc j (j + 1) hj hi' (by omega)
        simp
        omega
    refine st_skip (et_or (a := false) (b := false) (et_test (ev_eq (a := .int i) (b := .int 500) (ev_is rfl) ev_cv rfl (by simp; omega)))
      (fun _ => et_or (a := false) (b := false) (et_not (b := true) (et_b (ev_cl (ea_cons hb2 ea_nil) (pu_is_pair K cS cP _ _).pu)) rfl)
      (fun _ => et_or (a := false) (b := false) (et_not (b := true) (et_b (ev_cl (ea_cons g0 ea_nil) (pu_is_place K cS cP _ (by omega) (by omega)).pu)) rfl)
      (fun _ => et_not (b := true) (et_b (ev_cl (ea_cons g1 ea_nil) (pu_is_place K cS cP _ (by omega) (by omega)).pu)) rfl) rfl) rfl) rfl) fun w5 e5 => ?_
    refine st_skip (et_test ((ev_op0 (g0.le e5) (ev_is rfl)).of (by rw [hlt]))) fun w6 e6 => ?_
    refine st_asg (g0.le (e5.trans e6)) fun v7 w7 e7 r7 => ?_
    cases r7
    refine hK _ w7 (fun p o h => (((e4.trans e5).trans e6).trans e7).ef p o h) ⟨(((l3.trans e4).trans e5).trans e6).trans e7, some (.int i), some b, ?_⟩
    simp [lastC, hi']
  · rintro σ1 w3 ⟨l3, x, z, rfl⟩
    exact q _ w3 l3 rfl
end
end Z
end

section -- P2
set_option Elab.async false
set_option linter.all false
set_option maxRecDepth 100000
set_option maxHeartbeats 4000000
set_option autoImplicit false
namespace Z
open PySem PySem.Spec L2 K07
open M7 (Names Cells Kn Kd arr headsOf comeOf knotK foundOf strOf)
section
variable {J : Addr → Prop} {σ : St} {w w0 w1 : Wd} {ta tb tc te : TE} {R S : Rp} {K : PySem.W.Frag} {D : Ends} {sa : TS} {g : TG} {i : Nat}
theorem st_fld {x C dx : Addr} {fs : List (Str × V)} {a : Str} (hc : Cls K C) (hn : NoAttr K C a) (own : Own w x (.ins C dx fs)) (hj : ¬ J x) (hv : σ[i]? = some (some (.ref x))) (hz : fs.length < 1000) (h : Ev J te σ w R)
    (k : ∀ v w1 w2, Le J w w1 → R.r w1.f v → Mt x (.ins C dx (putF a v fs)) w1 w2 → D.nx σ w2.h) : sFld K (tVar i) te a D σ w.h := h w .rfl _ fun v w1 e1 r1 =>
  ⟨.ref x, hv, x, C, dx, fs, rfl, (own.le e1 hj).h, hc, hn, hz, k v w1 (w1.put x _ (own.le e1 hj).f) e1 r1 (Wd.put_mt _)⟩
theorem merge_nodup : ∀ (kvs acc : List (Key × V)), (∀ q ∈ kvs, valV acc q.1 = none) → (kvs.map (·.1)).Nodup → mergeK acc kvs = acc ++ kvs
  | [], acc, _, _ => (List.append_nil acc).symm
  | q :: kvs, acc, h, hn => by
    rw [List.map_cons, List.nodup_cons] at hn
    show mergeK (putK acc q.1 q.2) kvs = _
    rw [putK_new _ (h q (List.mem_cons_self ..)), merge_nodup kvs _ (fun r hr => ?_) hn.2]
    · simp
    · have hne : ¬ r.1 = q.1 := fun e => hn.1 (e ▸ List.mem_map.mpr ⟨r, hr, rfl⟩)
      rw [valV_snoc _ _ _ _ (h q (List.mem_cons_self ..)), if_neg hne]
      exact h r (List.mem_cons_of_mem _ hr)
theorem sq_pairs (w : Wd) : ∀ {ps : List Addr} {kvs : List (Key × V)}, Paired (fun p kv => SqT K w.f p [kV kv.1, kv.2]) ps kvs → Paired (fun p kv => SqT K w.h p [kV kv.1, kv.2]) ps kvs
  | _, _, .nil => .nil
  | _, _, .cons a r => .cons (sqT_h w a) (sq_pairs w r)
theorem ev_dict {ds : List PyData} {kvs : List (Key × V)} (hd : ∀ f vs, DpAll K f vs ds → ∃ ps : List Addr, vs = ps.map V.ref ∧ Paired (fun p kv => SqT K f p [kV kv.1, kv.2]) ps kvs) (hn : (kvs.map (·.1)).Nodup)
    (h : Ev J te σ w (TupD K ds)) : Ev J (tCB (rDictT K) (tCons te tNil)) σ w (DicR kvs) := fun w' e Q q => h w' e _ fun v w1 e1 ⟨a, xs, h1, ⟨o, h2, h3⟩, h4⟩ => by
  obtain ⟨ps, rfl, hp⟩ := hd _ _ h4
  subst h1
  have hp2 : Paired (fun p kv => SqT K w1.h p [kV kv.1, kv.2]) ps kvs := sq_pairs w1 hp
  refine ⟨a, ps, kvs, rfl, ⟨o, h2, w1.ok _ _ h3⟩, hp2, fun p hp => ?_⟩
  rw [merge_nodup kvs [] (fun _ _ => rfl) hn]
  exact q (.ref p) (w1.new p _) (e1.trans (Le.new hp)) ⟨p, rfl, new_at⟩
theorem nm_pairs {f : Hp} : ∀ (ns : Names) (vs : List V), DpAll K f vs (ns.map nmD) → ∃ ps : List Addr, vs = ps.map V.ref ∧ Paired (fun p (kv : Key × V) => SqT K f p [kV kv.1, kv.2]) ps (ns.map fun q => (Sum.inr (chr q.1), V.int q.2))
  | [], _, h => by cases h; exact ⟨[], rfl, .nil⟩
  | n :: ns, _, h => by
    cases h with
    | cons h1 h2 =>
      obtain ⟨ps, rfl, hp⟩ := nm_pairs ns _ h2
      cases h1 with
      | @tup a xs _ q1 q2 =>
        cases q2 with
        | cons r1 r2 =>
          cases r2 with
          | cons r3 r4 =>
            cases r1
            cases r3
            cases r4
            exact ⟨a :: ps, rfl, .cons q1 hp⟩
theorem cl_pairs {f : Hp} : ∀ (cs : Cells) (vs : List V), DpAll K f vs (cs.map clD) → ∃ ps : List Addr, vs = ps.map V.ref ∧ Paired (fun p (kv : Key × V) => SqT K f p [kV kv.1, kv.2]) ps (kvsOf cs)
  | [], _, h => by cases h; exact ⟨[], rfl, .nil⟩
  | n :: ns, _, h => by
    cases h with
    | cons h1 h2 =>
      obtain ⟨ps, rfl, hp⟩ := cl_pairs ns _ h2
      cases h1 with
      | @tup a xs _ q1 q2 =>
        cases q2 with
        | cons r1 r2 =>
          cases r2 with
          | cons r3 r4 =>
            cases r1
            cases r3
            cases r4
            exact ⟨a :: ps, rfl, .cons q1 hp⟩
theorem VC.nodup {cs : Cells} (vc : VC cs) : (cs.map (·.1)).Nodup := by
  rw [List.nodup_iff_pairwise_ne, List.pairwise_map]
  exact vc.asc.imp fun h e => by omega
theorem VN.nodup {ns : Names} (vn : VN ns) : (ns.map (·.1)).Nodup := by
  rw [List.nodup_iff_pairwise_ne, List.pairwise_map]
  exact vn.asc.imp fun h e => by omega
theorem nodup_map_inj {α β : Type} {f : α → β} (hf : ∀ x y, f x = f y → x = y) : ∀ {l : List α}, l.Nodup → (l.map f).Nodup
  | [], _ => .nil
  | a :: l, h => by
    rw [List.nodup_cons] at h
    rw [List.map_cons, List.nodup_cons]
    refine ⟨fun hm => ?_, nodup_map_inj hf h.2⟩
    obtain ⟨y, hy, e⟩ := List.mem_map.mp hm
    exact h.1 (hf _ _ e ▸ hy)
theorem chr_inj {a b : Nat} (h : chr a = chr b) : a = b := by
  have h2 := congrArg (fun s : PySem.Str => s.cps.toList) h
  simpa [chr] using h2
/-- a list's comprehension over pairs: both names wiped -/
theorem wipe_set2 {σ : St} {j k : Nat} {x y : Option V} : wipe (((wipe σ [j, k]).set j x).set k y) [j, k] = wipe σ [j, k] := by
  simp only [wipe]
  apply List.ext_getElem?
  intro n
  simp only [List.getElem?_set, List.length_set]
  repeat' split
  all_goals first | rfl | (simp_all; done) | skip
end
section
variable {J : Addr → Prop} {σ : St} {w w0 w1 : Wd} {ta tb tc te : TE} {K : PySem.W.Frag} {i j : Nat}
/-- [x for a, b in pairs] and such -/
theorem ev_lc2 {tt : TT} {wi : TI} {n : Nat} {P : Nat → Rp} {A B : Nat → Rp} (f : Nat → Bool) (E : Nat → Rp) (hs : Src J wi σ w n P) (hP : ∀ i f v, i < n → (P i).r f v → (TupR K [A i, B i]).r f v) (hn : n ≤ 10000)
    (hw : ∀ x y, wipe (((wipe σ [i, j]).set i (some x)).set j (some y)) [i, j] = wipe σ [i, j])
    (turn : ∀ k w1, k < n → Le J w w1 → ∀ x y, (A k).r w1.f x → (B k).r w1.f y → EvB J tt (((wipe σ [i, j]).set i (some x)).set j (some y)) w1 (f k) ∧ (f k = true → Ev J te (((wipe σ [i, j]).set i (some x)).set j (some y)) w1 (E k)))
    (hj : ∀ D, w.h D = none → ¬ J D) : EvN J (tLc wi (gTup K 2 (gCons (gName i) (gCons (gName j) gNil))) tt te [i, j]) σ w fun f' o => ∃ xs, o = .lst xs ∧ AllR f' (keptR n f E) xs :=
  lc_mut f E hs hn (fun k w1 hk e1 x hx Q q => g_two (hP k _ _ hk hx) fun a b ha hb => q _ w1 .rfl (hw a b) (turn k w1 hk e1 a b ha hb).1 (turn k w1 hk e1 a b ha hb).2) hj
/-- [x for a in things] and such -/
theorem ev_lc1 {tt : TT} {wi : TI} {n : Nat} {P : Nat → Rp} (f : Nat → Bool) (E : Nat → Rp) (hs : Src J wi σ w n P) (hn : n ≤ 10000)
    (turn : ∀ k w1, k < n → Le J w w1 → ∀ x, (P k).r w1.f x → EvB J tt ((wipe σ [i]).set i (some x)) w1 (f k) ∧ (f k = true → Ev J te ((wipe σ [i]).set i (some x)) w1 (E k)))
    (hj : ∀ D, w.h D = none → ¬ J D) : EvN J (tLc wi (gName i) tt te [i]) σ w fun f' o => ∃ xs, o = .lst xs ∧ AllR f' (keptR n f E) xs :=
  lc_mut f E hs hn (fun k w1 hk e1 x hx Q q => q _ w1 .rfl wipe_set1 (turn k w1 hk e1 x hx).1 (turn k w1 hk e1 x hx).2) hj
theorem keptR_all {n : Nat} {E : Nat → Rp} : keptR n (fun _ => true) E = (List.range n).map E := by
  unfold keptR
  rw [List.filter_eq_self.mpr (by simp)]
theorem keptR_map {α : Type} {l : List α} {f : α → Bool} {E : α → Rp} {F : Nat → Bool} {G : Nat → Rp} (hF : ∀ i (h : i < l.length), F i = f l[i]) (hG : ∀ i (h : i < l.length), G i = E l[i]) : keptR l.length F G = (l.filter f).map E := by
  have key : ∀ n, n ≤ l.length → keptR n F G = ((l.take n).filter f).map E := by
    intro n
    induction n with
    | zero => intro _; rfl
    | succ n ih =>
      intro hn
      have hn' : n < l.length := by omega
      rw [← List.take_append_getElem hn', List.filter_append, List.map_append, ← ih (by omega)]
      cases h : f l[n] with
      | true => rw [keptR_yes ((hF n hn').trans h), hG n hn', List.filter_cons_of_pos h]; rfl
      | false => rw [keptR_no ((hF n hn').trans h), List.filter_cons_of_neg (by simp [h])]; simp
  have := key l.length (Nat.le_refl _)
  rwa [List.take_length] at this
end
end Z
end

section -- P3
set_option Elab.async false
set_option linter.all false
set_option maxRecDepth 100000
set_option maxHeartbeats 4000000
set_option autoImplicit false
namespace Z
open PySem PySem.Spec L2 K07
open M7 (Names Cells Kn Kd arr headsOf comeOf knotK foundOf strOf)
theorem st_end {D : Ends} {σ : St} {H : Hp} (h : D.nx σ H) : tNext D σ H := h
section
variable {J : Addr → Prop} {σ : St} {w w0 w1 : Wd} {ts : TA} {t te : TE} {K : PySem.W.Frag} {cS cP : Addr} {mg : PySem.Str → Option Value} {ns : Names} {cs : Cells}
theorem putF_len (a : PySem.Str) (v : V) : ∀ fs : List (PySem.Str × V), (putF a v fs).length ≤ fs.length + 1
  | [] => by simp [putF]
  | (g, x) :: r => by
    unfold putF
    split
    · simp
    · have := putF_len a v r
      simp
      omega
theorem putF_k {a : PySem.Str} {v : V} {fs : List (PySem.Str × V)} {k : Nat} (h : fs.length ≤ k) : (putF a v fs).length ≤ k + 1 := Nat.le_trans (putF_len a v fs) (Nat.succ_le_succ h)
theorem ev_sto (T : Txt K mg cS cP) (vn : VN ns) (vc : VC cs) (h : EvA J ts σ w [TupD K (ns.map nmD), TupD K (cs.map clD)]) : Ev J (tMake cS (p_Store_init K cS cP) [] E0 ts) σ w (StoR K cS ns cs) := fun w' e Q q => h w' e _ fun vs w1 e1 a x dx hx hdx hne => by
  obtain ⟨v1, ws, rfl, a1, a⟩ := a.cons_inv
  obtain ⟨v2, ws, rfl, a2, a⟩ := a.cons_inv
  cases a.nil_inv
  let wa := w1.put dx (.own x) (w1.fresh_f hdx)
  have hxa : wa.f x = none := w1.fresh_f hx
  let wb := wa.put x (.ins cS dx []) hxa
  have la : Le J0 w1 wa := put_le hdx
  have hxa2 : wa.h x = none := (upd_ne hne.symm).trans hx
  have lb : Le J0 w1 wb := la.mt (Wd.put_mt _) hx hxa
  have own : Own wb x (.ins cS dx []) := Mt.own (Wd.put_mt _) hxa
  refine ⟨rfl, ?_⟩
  have nj : ¬ J0 x := id
  have n1 := nms_of a1
  have n2 := cls_of a2
  have fb : ∀ {R : Rp} {v : V} {w2 : Wd}, Le J0 w1 w2 → R.r w1.f v → R.r w2.f v := fun {R v w2} e r => R.mono e.ef r
  show tSeq _ _ _ _ wb.h
  refine st_skip (J := J0) (et_not (b := true) (et_b (ev_cl (ea_cons (ev_var (v := v1) rfl (fb lb n1)) ea_nil) (pu_are_name_pairs K cS cP vn).pu)) rfl) fun w2 e2 => ?_
  refine st_drop (J := J0) (ev_cl (ea_cons (ev_var (v := v2) rfl (fb (lb.trans e2) n2)) ea_nil) (pu_check_cells K cS cP vc).pu) fun _ w3 e3 _ => ?_
  have l3 := (lb.trans e2).trans e3
  refine st_fld (J := J0) T.clS T.nStore_names (own.le (e2.trans e3) nj) nj rfl (Nat.lt_of_le_of_lt (Nat.le_refl 0) (by decide)) (ev_var (R := TupD K (ns.map nmD)) (v := v1) rfl (fb l3 a1)) fun u4 w4 w5 e4 r4 m5 => ?_
  have own5 := m5.own ((own.le (e2.trans e3) nj).le e4 nj).f
  have l5 := (l3.trans e4).mt m5 hx ((own.le (e2.trans e3) nj).le e4 nj).f
  have r5 : (TupD K (ns.map nmD)).r w5.f u4 := (TupD K _).mono m5.ef r4
  refine st_fld (J := J0) T.clS T.nStore_cells own5 nj rfl (Nat.lt_of_le_of_lt (putF_k (Nat.le_refl 0)) (by decide)) (ev_var (R := TupD K (cs.map clD)) (v := v2) rfl (fb l5 a2)) fun u6 w6 w7 e6 r6 m7 => ?_
  have own7 := m7.own (own5.le e6 nj).f
  have l7 := (l5.trans e6).mt m7 hx (own5.le e6 nj).f
  have r7n : (TupD K (ns.map nmD)).r w7.f u4 := (TupD K _).mono m7.ef ((TupD K _).mono e6.ef r5)
  have r7 : (TupD K (cs.map clD)).r w7.f u6 := (TupD K _).mono m7.ef r6
  refine st_fld (J := J0) T.clS T.nStore_places own7 nj rfl (Nat.lt_of_le_of_lt (putF_k (putF_k (Nat.le_refl 0))) (by decide)) (ev_dict (fun f vs => nm_pairs ns vs) (by
      rw [List.map_map]
      exact (List.map_map (f := fun q : Nat × Int => q.1) (g := fun c => (Sum.inr (chr c) : Key)) (l := ns)) ▸ nodup_map_inj (fun a b e => chr_inj (Sum.inr.inj e)) vn.nodup)
    (ev_var (v := v1) rfl (fb l7 a1))) fun u8 w8 w9 e8 r8 m9 => ?_
  have own9 := m9.own (own7.le e8 nj).f
  have l9 := (l7.trans e8).mt m9 hx (own7.le e8 nj).f
  have ef79 : Exf w7.f w9.f := fun p o h => m9.ef p o (e8.ef p o h)
  refine st_fld (J := J0) T.clS T.nStore_arrows own9 nj rfl (Nat.lt_of_le_of_lt (putF_k (putF_k (putF_k (Nat.le_refl 0)))) (by decide)) (ev_dict (fun f vs => cl_pairs cs vs) (by
      unfold kvsOf
      rw [List.map_map]
      exact (List.map_map (f := fun q : Int × Int => q.1) (g := fun c => (Sum.inl c : Key)) (l := cs)) ▸ nodup_map_inj (fun a b e => Sum.inl.inj e) vc.nodup)
    (ev_var (v := v2) rfl (fb l9 a2))) fun u10 w10 w11 e10 r10 m11 => ?_
  have own11 := m11.own (own9.le e10 nj).f
  have l11 := (l9.trans e10).mt m11 hx (own9.le e10 nj).f
  have ef911 : Exf w9.f w11.f := fun p o h => m11.ef p o (e10.ef p o h)
  have ef711 : Exf w7.f w11.f := fun p o h => ef911 p o (ef79 p o h)
  obtain ⟨da, rfl, hda⟩ := r10
  have hda11 : w11.f da = some (.dK (kvsOf cs)) := m11.ef _ _ hda
  have hn1 : (TupR K (ns.map (nmR K))).r w11.f v1 := fb l11 n1
  have hlen := vn.four
  refine st_fld (J := J0) T.clS T.nStore_letters own11 nj rfl (Nat.lt_of_le_of_lt (putF_k (putF_k (putF_k (putF_k (Nat.le_refl 0))))) (by decide)) (ev_join (ys := ns.map fun q => chr q.1) (a := "") ev_cv (ev_lstD ?_) ?_) fun u12 w12 w13 e12 r12 m13 => ?_
  · have key : keptR (ns.map (nmR K)).length (fun _ => true) (fun k => ((ns.map fun q => chr q.1).map PyData.str |>.map (Dat K)).getD k (Is .non)) = ((ns.map fun q => chr q.1).map PyData.str).map (Dat K) := by
      rw [List.length_map, ← List.filter_eq_self.mpr (show ∀ a ∈ ns, (fun _ => true) a = true by simp), keptR_all]
      rw [List.filter_eq_self.mpr (show ∀ a ∈ ns, (fun _ => true) a = true by simp)]
      refine List.ext_getElem (by simp) fun i h1 h2 => ?_
      have hi : i < ns.length := by simpa using h1
      simp [List.getD_eq_getElem?_getD, hi]
    rw [← key]
    refine en_lstR (ev_lc2 (A := fun i => RS (chr ((ns[i]?.map (·.1)).getD 0))) (B := fun i => RI ((ns[i]?.map (·.2)).getD 0)) (fun _ => true) _ (src_tup (ev_var (v := v1) rfl hn1)) (fun i f v hi h => ?_) (by simp; omega) (fun x y => rfl) (fun k w2 hk e x y hx hy => ⟨et_yes, fun _ => ev_var (v := x) rfl ?_⟩) fun _ _ => id)
    · have hi' : i < ns.length := by simpa using hi
      rw [getD_map hi'] at h
      simpa [hi', nmR] using h
    · have hi' : k < ns.length := by simpa using hk
      simp [List.getD_eq_getElem?_getD, hi'] at hx ⊢
      exact dat_str.mpr hx
  · have h1 : ((ns.map fun q => chr q.1).map (·.length)).sum = ns.length := by
      rw [List.map_map]
      have : ∀ l : Names, (l.map ((fun s : PySem.Str => s.length) ∘ fun q => chr q.1)).sum = l.length := by
        intro l
        induction l with
        | nil => rfl
        | cons a l ih => rw [List.map_cons, List.sum_cons, ih, List.length_cons]; show 1 + _ = _; omega
      exact this ns
    rw [h1]
    show ns.length + (ns.map fun q => chr q.1).length * 0 ≤ _
    omega
  have own13 := m13.own (own11.le e12 nj).f
  have l13 := (l11.trans e12).mt m13 hx (own11.le e12 nj).f
  have ef1113 : Exf w11.f w13.f := fun p o h => m13.ef p o (e12.ef p o h)
  have ef713 : Exf w7.f w13.f := fun p o h => ef1113 p o (ef711 p o h)
  refine ⟨rfl, ?_⟩
  have lp : Le J0 w1 (w13.pub x _ own13.h) := l13.pub hx own13.h
  have efp : Exf w13.f (w13.pub x _ own13.h).f := pub_ef own13.h own13.f
  refine q (.ref x) (w13.pub x _ own13.h) (e1.trans lp.any) ⟨x, dx, _, u4, u6, da, rfl, pub_at own13.h, rfl, ?_, rfl, ?_, rfl, ?_⟩
  · exact (TupD K _).mono (fun p o h => efp p o (ef713 p o h)) r7n
  · exact (TupD K _).mono (fun p o h => efp p o (ef713 p o h)) r7
  · exact efp _ _ (ef1113 _ _ hda11)
theorem pu_check_store : Pu0 (p_check_store K cS cP) [StoR K cS ns cs] (Is .non) := pu_1 fun v w h Q q => by
  obtain ⟨a, dx, fs, vn, vc, da, rfl, h2, _⟩ := h
  refine st_if (J := J0) (P := (· = false)) (et_not (b := true) (et_b ?_) rfl) (fun e => nomatch e) fun _ w1 e1 => q _ w1 e1 rfl
  exact fun w' e Q q => ⟨.ref a, rfl, a, dx, fs, rfl, w'.ok _ _ (e.ef _ _ h2), q _ w' .rfl rfl⟩
theorem ev_arrows (T : Txt K mg cS cP) (h : Ev J t σ w (StoR K cS ns cs)) : Ev J (tFld K t "arrows") σ w (DicR (kvsOf cs)) :=
  ev_fld T.clS T.nStore_arrows h fun f v ⟨a, dx, fs, vn, vc, da, h1, h2, h3, h4, h5, h6, h7, h8⟩ => ⟨a, dx, fs, .ref da, h1, h2, h7, da, rfl, h8⟩
theorem ev_names (T : Txt K mg cS cP) (h : Ev J t σ w (StoR K cS ns cs)) : Ev J (tFld K t "names") σ w (TupD K (ns.map nmD)) :=
  ev_fld T.clS T.nStore_names h fun f v ⟨a, dx, fs, vn, vc, da, h1, h2, h3, h4, h5, h6, h7, h8⟩ => ⟨a, dx, fs, vn, h1, h2, h3, h4⟩
theorem ev_namesR (T : Txt K mg cS cP) (h : Ev J t σ w (StoR K cS ns cs)) : Ev J (tFld K t "names") σ w (TupR K (ns.map (nmR K))) := (ev_names T h).imp fun _ _ _ => nms_of
theorem ev_cells (T : Txt K mg cS cP) (h : Ev J t σ w (StoR K cS ns cs)) : Ev J (tFld K t "cells") σ w (TupD K (cs.map clD)) :=
  ev_fld T.clS T.nStore_cells h fun f v ⟨a, dx, fs, vn, vc, da, h1, h2, h3, h4, h5, h6, h7, h8⟩ => ⟨a, dx, fs, vc, h1, h2, h5, h6⟩
theorem val_kvs (p : Int) : valV (kvsOf cs) (.inl p) = (arr cs p).map V.int := by
  unfold kvsOf arr
  induction cs with
  | nil => rfl
  | cons c cs ih =>
    rw [List.map_cons]
    by_cases e : c.1 = p
    · subst e
      rw [valV_pos rfl, List.lookup_cons]
      simp
    · rw [valV_neg (fun h => e (Sum.inl.inj h)), ih, List.lookup_cons]
      have : (p == c.1) = false := by simpa using fun h => e h.symm
      rw [this]
/-- a dict of places -/
def dOf (l : List Int) : List (Key × V) := l.map fun x => (Sum.inl x, V.bl true)
theorem val_dOf (l : List Int) (p : Int) : (valV (dOf l) (.inl p)).isSome = decide (p ∈ l) := by
  unfold dOf
  induction l with
  | nil => rfl
  | cons c l ih =>
    rw [List.map_cons]
    by_cases e : c = p
    · subst e
      rw [valV_pos rfl]
      simp
    · rw [valV_neg (fun h => e (Sum.inl.inj h)), ih]
      have : ¬ p = c := fun h => e h.symm
      simp [this]
theorem put_dOf {l : List Int} {p : Int} (h : p ∉ l) : putK (dOf l) (.inl p) (.bl true) = dOf (l ++ [p]) := by
  have hn : valV (dOf l) (.inl p) = none := by
    have := val_dOf l p
    cases e : valV (dOf l) (.inl p) with
    | none => rfl
    | some v => rw [e] at this; simp [h] at this
  rw [putK_new _ hn]
  simp [dOf]
theorem dOf_len (l : List Int) : (dOf l).length = l.length := by simp [dOf]
end
end Z
end

section -- P4
set_option Elab.async false
set_option linter.all false
set_option maxRecDepth 100000
set_option maxHeartbeats 4000000
set_option autoImplicit false
namespace Z
open PySem PySem.Spec L2 K07
open M7 (Names Cells Kn Kd arr headsOf comeOf knotK foundOf strOf reachGo reachAll ordGo ordAll stretch strGo cnt isK)
section
variable {J : Addr → Prop} {σ : St} {w w0 w1 : Wd} {ts : TA} {t te : TE} {K : PySem.W.Frag} {cS cP : Addr} {mg : PySem.Str → Option Value} {ns : Names} {cs : Cells} {D : Ends} {sa : TS} {g : TG} {i : Nat}
/-- a loop over the keys of a dict of one's own -/
theorem st_lockKeys {d : Addr} {kvs : List (Key × V)} (own : Own w d (.dK kvs)) (hv : σ[i]? = some (some (.ref d))) (inv : Obj → Nat → St → Wd → Prop)
    (h0 : ∀ od w1, Mt d (.frz od (.dK kvs)) w w1 → inv od 0 σ w1)
    (step : ∀ od n σ1 w1 k v, kvs[n]? = some (k, v) → inv od n σ1 w1 → Own w1 d (.frz od (.dK kvs)) → ∀ (Kk bk : St → Hp → Prop) (rt : VK), (∀ σ' w', Own w' d (.frz od (.dK kvs)) → inv od (n + 1) σ' w' → Kk σ' w'.h) → g (kV k) σ1 w1.h fun σ2 H2 => sa { nx := Kk, ct := Kk, rt := rt, bk := bk } σ2 H2)
    (done : ∀ od σ1 w1 w2, inv od kvs.length σ1 w1 → w1.f d = none → Mt d (.dK kvs) w1 w2 → D.nx σ1 w2.h) : tLock (tFor (iKeys (tVar i)) g sa) D σ w.h := by
  refine ⟨d, _, own.h, trivial, fun od => ?_⟩
  let wl := w.put d (.frz od (.dK kvs)) own.f
  have ml : Mt d (.frz od (.dK kvs)) w wl := Wd.put_mt _
  have ol := ml.own own.f
  show tFor (iKeys (tVar i)) g sa _ σ wl.h
  refine ⟨.ref d, hv, d, od, rfl, .inl ⟨kvs, ol.h, ?_⟩⟩
  refine for_it (walk_keys (o := od)) (fun n σ1 H1 => ∃ w1, H1 = w1.h ∧ Own w1 d (.frz od (.dK kvs)) ∧ inv od n σ1 w1) ⟨wl, rfl, ol, h0 od wl ml⟩ (fun n σ1 H1 _ ⟨w1, e, o1, _⟩ => by subst e; exact o1.h) ?_ ?_
  · rintro n x σ1 H1 H' hn ⟨w1, rfl, o1, hinv⟩ ⟨rfl, k, v, hk, rfl⟩
    exact step od n σ1 w1 k v hk hinv o1 _ _ _ fun σ' w' o' h' => ⟨w', rfl, o', h'⟩
  · rintro σ1 H1 ⟨w1, rfl, o1, hinv⟩
    exact ⟨o1.h, done od σ1 w1 (w1.put d _ o1.f) hinv o1.f (Wd.put_mt _)⟩
theorem reachGo_succ {f : M7.Fn} {n : Nat} {fd r : List Int} {p : Int} (h : reachGo f n fd p = some r) : ∃ m, n = m + 1 := by
  cases n with
  | zero => simp [reachGo] at h
  | succ m => exact ⟨m, rfl⟩
theorem pn_reached (T : Txt K mg cS cP) (vc : VC cs) (vn : VN ns) (v : V) (w : Wd) (h : (StoR K cS ns cs).r w.f v) (Q : VK) (q : ∀ p w', Le J0 w w' → w.h p = none → Own w' p (.dK (dOf (comeOf ns cs))) → Q (.ref p) w'.h) : p_reached_cells K cS cP [v] w.h Q E0 := by
  have hf := vc.few
  have h4 := vn.four
  have hall := M7.reachAll_eq (M7.arr_fin cs) (N := cs.length + 1) (by simp) (headsOf ns) [] M7.Closed.nil
  change _ = some (comeOf ns cs) at hall
  refine ⟨rfl, st_asgN (J := J0) en_dic fun d o w1 e1 hd own1 ho => ?_⟩
  subst ho
  have hv : Ev J0 (tVar 0) [some v, some (.ref d), none, none] w1 (StoR K cS ns cs) := ev_var (v := v) rfl (Rp.mono _ e1.ef h)
  refine st_for (src_tup (ev_namesR T hv)) (fun i σ1 w2 => Le J0 w w2 ∧ ∃ fd x y, σ1 = [some v, some (.ref d), x, y] ∧ Own w2 d (.dK (dOf fd)) ∧ reachAll (arr cs) (cs.length + 1) ((headsOf ns).drop i) fd = some (comeOf ns cs) ∧ fd.length ≤ i * (cs.length + 1))
    (fun w2 e2 => ⟨e1.trans e2, [], none, none, rfl, own1.le0 e2, hall, by simp⟩) ?_ ?_
  · rintro i σ1 w2 hi ⟨l2, fd, x, y, rfl, own2, hr, hl⟩ z w3 e3 hz Kk hK
    have hi' : i < ns.length := by simpa using hi
    rw [getD_map hi'] at hz
    refine g_two hz fun a b ha hb => ?_
    cases hb
    have hdr : (headsOf ns).drop i = ns[i].2 :: (headsOf ns).drop (i + 1) := by
      have hi2 : i < (headsOf ns).length := by simpa [headsOf] using hi'
      rw [List.drop_eq_getElem_cons hi2]
      simp [headsOf]
    rw [hdr] at hr
    simp only [reachAll, Option.bind_eq_some_iff] at hr
    obtain ⟨r, hr1, hr2⟩ := hr
    have ef23 : Exf w2.f w3.f := e3.ef
    show tWhile _ _ _ [some v, some (.ref d), some a, some (.int ns[i].2)] w3.h
    refine st_while (J := J0) (m0 := cs.length + 1) (fun m σ1 w4 => Le J0 w w4 ∧ Exf w2.f w4.f ∧ ∃ fd p, σ1 = [some v, some (.ref d), some a, some (.int p)] ∧ Own w4 d (.dK (dOf fd)) ∧ reachGo (arr cs) m fd p = some r ∧ fd.length + m ≤ (i + 1) * (cs.length + 1))
      ⟨l2.trans e3, ef23, fd, _, rfl, own2.le0 e3, hr1, by rw [Nat.add_mul]; omega⟩ ?_
    rintro m σ1 w4 ⟨l4, ef4, fd, p, rfl, own4, hg, hm⟩
    obtain ⟨m, rfl⟩ := reachGo_succ hg
    have hv4 : Ev J0 (tVar 0) [some v, some (.ref d), some a, some (.int p)] w4 (StoR K cS ns cs) := ev_var (v := v) rfl (Rp.mono _ l4.ef h)
    refine ⟨_, et_and (et_b (ev_din (x := .inl p) (ev_arrows T hv4) (ev_is rfl))) (fun _ => et_b (ev_dniO (x := .inl p) own4 id rfl (ev_is rfl))) rfl, fun hb w5 e5 Kw hKw => ?_, fun hb w5 e5 => ?_⟩
    · rw [val_kvs, val_dOf] at hb
      have hb' : (arr cs p).isSome = true ∧ p ∉ fd := by
        cases hq : arr cs p with
        | none => rw [hq] at hb; simp at hb
        | some z => rw [hq] at hb; simpa using hb
      obtain ⟨q', hq⟩ := Option.isSome_iff_exists.mp hb'.1
      simp only [reachGo, hq, if_neg hb'.2] at hg
      refine st_setD (J := J0) (x := .inl p) (own4.le0 e5) id rfl (ev_is (v := .int p) rfl) (R := Is (.bl true)) ev_cv (by rw [dOf_len]; have : (i + 1) * (cs.length + 1) ≤ 4 * 101 := Nat.mul_le_mul (by omega) (by omega); omega) fun u w6 w7 e6 hu m7 => ?_
      cases hu
      have own6 := (own4.le0 e5).le0 e6
      have own7 := m7.own own6.f
      rw [put_dOf hb'.2] at own7
      have l7 := ((l4.trans e5).trans e6).mt m7 hd own6.f
      have hv7 : Ev J0 (tVar 0) [some v, some (.ref d), some a, some (.int p)] w7 (StoR K cS ns cs) := ev_var (v := v) rfl (Rp.mono _ l7.ef h)
      refine st_asg (J := J0) (ev_dget (R := RI q') (v := .int q') (x := .inl p) (ev_arrows T hv7) (ev_is (v := .int p) rfl) (by rw [val_kvs, hq]; rfl) fun _ _ => rfl) fun u w8 e8 hu => ?_
      cases hu
      exact hKw m _ w8 (Nat.lt_succ_self m) ⟨l7.trans e8, fun p o h => e8.ef p o (m7.ef p o (e6.ef p o (e5.ef p o (ef4 p o h)))), _, q', rfl, own7.le0 e8, hg, by rw [List.length_append, List.length_singleton]; omega⟩
    · rw [val_kvs, val_dOf] at hb
      have hr' : r = fd := by
        unfold reachGo at hg
        cases hq : arr cs p with
        | none => simp only [hq] at hg; exact (Option.some.inj hg).symm
        | some z =>
          simp only [hq] at hg
          rw [hq] at hb
          by_cases hp : p ∈ fd
          · rw [if_pos hp] at hg; exact (Option.some.inj hg).symm
          · simp [hp] at hb
      subst hr'
      exact hK _ w5 (fun p o h => e5.ef p o (ef4 p o h)) ⟨l4.trans e5, r, some a, some (.int p), rfl, own4.le0 e5, hr2, by omega⟩
  · rintro σ1 w2 ⟨l2, fd, x, y, rfl, own2, hr, hl⟩
    have e : (headsOf ns).drop (ns.map (nmR K)).length = [] := by simp [headsOf]
    rw [e] at hr
    cases hr
    exact ⟨.ref d, rfl, q d w2 l2 hd own2⟩
end
end Z
end

section -- P5
set_option Elab.async false
set_option linter.all false
set_option maxRecDepth 100000
set_option maxHeartbeats 4000000
set_option autoImplicit false
namespace Z
open PySem PySem.Spec L2 K07
open M7 (Names Cells Kn Kd arr headsOf comeOf knotK foundOf strOf reachGo reachAll ordGo ordAll stretch strGo cnt isK)
/-! ### while a dict is locked -/
structure Lk (d : Addr) (u fz : HO) (wu wl : Wd) : Prop where
  own : Own wu d u
  mt : Mt d fz wu wl
section
variable {d l : Addr} {u fz o : HO} {wu wl wl2 w1 w2 : Wd}
theorem Lk.at (k : Lk d u fz wu wl) : Own wl d fz := k.mt.own k.own.f
theorem Lk.le (k : Lk d u fz wu wl) (e : Le J0 wl wl2) : ∃ wu2, Lk d u fz wu2 wl2 ∧ Le J0 wu wu2 := by
  have o2 := k.at.le0 e
  refine ⟨wl2.put d u o2.f, ⟨Mt.own (Wd.put_mt o2.f) o2.f, rfl, ?_⟩, ?_, ?_, ?_⟩
  · funext b
    show wl2.h b = upd (upd wl2.h d u) d fz b
    by_cases hb : b = d
    · subst hb; rw [upd_same, o2.h]
    · rw [upd_ne hb, upd_ne hb]
  · intro p v hp
    exact e.ef p v (by rw [k.mt.f]; exact hp)
  · intro p v hp
    left
    show upd wl2.h d u p = some v
    by_cases hb : p = d
    · subst hb
      rw [k.own.h] at hp
      rw [upd_same, hp]
    · rw [upd_ne hb]
      exact e.h0 p v (by rw [k.mt.h, upd_ne hb]; exact hp)
  · intro p v hp
    rcases e.nw p v hp with h | h
    · left; rw [k.mt.f] at h; exact h
    · right
      have hb : p ≠ d := fun z => by subst z; rw [k.at.h] at h; cases h
      rw [k.mt.h, upd_ne hb] at h
      exact h
theorem Lk.put (k : Lk d u fz wu wl) (m : Mt l o wl wl2) (h : l ≠ d) : ∃ wu2, Lk d u fz wu2 wl2 ∧ Mt l o wu wu2 := by
  have hf : wl2.f d = none := by rw [m.f]; exact k.at.f
  refine ⟨wl2.put d u hf, ⟨Mt.own (Wd.put_mt hf) hf, rfl, ?_⟩, ?_, ?_⟩
  · funext b
    show wl2.h b = upd (upd wl2.h d u) d fz b
    by_cases hb : b = d
    · subst hb; rw [upd_same, m.h, upd_ne h.symm]; exact k.at.h
    · rw [upd_ne hb, upd_ne hb]
  · show wl2.f = wu.f
    rw [m.f, k.mt.f]
  · funext b
    show upd wl2.h d u b = upd wu.h l o b
    by_cases hb : b = d
    · subst hb; rw [upd_same, upd_ne h.symm, k.own.h]
    · rw [upd_ne hb, m.h]
      by_cases hl : b = l
      · subst hl; rw [upd_same, upd_same]
      · rw [upd_ne hl, upd_ne hl, k.mt.h, upd_ne hb]
theorem Lk.back (k : Lk d u fz wu wl) (m : Mt d u wl w2) : w2 = wu := by
  obtain ⟨f1, h1, ok1⟩ := w2
  obtain ⟨f2, h2, ok2⟩ := wu
  have e1 : f1 = f2 := m.f.trans k.mt.f
  have e2 : h1 = h2 := by
    funext b
    have : h1 b = upd wl.h d u b := congrFun m.h b
    show h1 b = h2 b
    rw [this]
    by_cases hb : b = d
    · subst hb; rw [upd_same]; exact k.own.h.symm
    · rw [upd_ne hb, k.mt.h, upd_ne hb]
  subst e1 e2
  rfl
end
/-- a dict by the places that are its keys -/
def PlR (P : Int → Bool) : Rp := ⟨fun f v => ∃ a kvs, v = .ref a ∧ f a = some (.dK kvs) ∧ ∀ x, (valV kvs (.inl x)).isSome = P x, fun e ⟨a, kvs, h1, h2, h3⟩ => ⟨a, kvs, h1, e _ _ h2, h3⟩⟩
section
variable {J : Addr → Prop} {σ : St} {w w0 w1 : Wd} {ta tb t te : TE} {K : PySem.W.Frag} {cS cP : Addr} {mg : PySem.Str → Option Value} {ns : Names} {cs : Cells} {D : Ends} {sa : TS} {g : TG} {i : Nat} {R : Rp}
theorem ev_add {a b : Int} (ha : Ev J ta σ w (RI a)) (hb : Ev J tb σ w (RI b)) : Ev J (tOp rAddI ta tb) σ w (RI (a + b)) := ev_op0 ha hb
theorem ev_sub {a b : Int} (ha : Ev J ta σ w (RI a)) (hb : Ev J tb σ w (RI b)) : Ev J (tOp rSubI ta tb) σ w (RI (a - b)) := ev_op0 ha hb
theorem ev_lt {a b : Int} {c : Bool} (ha : Ev J ta σ w (RI a)) (hb : Ev J tb σ w (RI b)) (hc : decide (a < b) = c) : Ev J (tOp rLtI ta tb) σ w (RB c) := (ev_op0 ha hb).of (by rw [hc])
theorem ev_le {a b : Int} {c : Bool} (ha : Ev J ta σ w (RI a)) (hb : Ev J tb σ w (RI b)) (hc : decide (a ≤ b) = c) : Ev J (tOp rLeI ta tb) σ w (RB c) := (ev_op0 ha hb).of (by rw [hc])
theorem ev_gt {a b : Int} {c : Bool} (ha : Ev J ta σ w (RI a)) (hb : Ev J tb σ w (RI b)) (hc : decide (b < a) = c) : Ev J (tOp rGtI ta tb) σ w (RB c) := (ev_op0 ha hb).of (by rw [hc])
theorem ev_ge {a b : Int} {c : Bool} (ha : Ev J ta σ w (RI a)) (hb : Ev J tb σ w (RI b)) (hc : decide (b ≤ a) = c) : Ev J (tOp rGeI ta tb) σ w (RB c) := (ev_op0 ha hb).of (by rw [hc])
theorem ev_pin {P : Int → Bool} {x : Int} (hd : Ev J tb σ w (PlR P)) (hk : Ev J ta σ w (RI x)) : Ev J (tDIn ta tb) σ w (RB (P x)) := fun w' e Q q =>
  hk w' e _ fun y w1 e1 r1 => hd w1 (e.trans e1) _ fun dv w2 e3 ⟨d, kvs, e2, hd2, hp⟩ => ⟨d, _, e2, .inl ⟨kvs, .inl x, .inl (w2.ok _ _ hd2), r1, rfl⟩, q _ w2 (e1.trans e3) (by rw [hp]; rfl)⟩
theorem ev_pni {P : Int → Bool} {x : Int} (hd : Ev J tb σ w (PlR P)) (hk : Ev J ta σ w (RI x)) : Ev J (tDNotIn ta tb) σ w (RB (!P x)) := fun w' e Q q =>
  hk w' e _ fun y w1 e1 r1 => hd w1 (e.trans e1) _ fun dv w2 e3 ⟨d, kvs, e2, hd2, hp⟩ => ⟨d, _, e2, .inl ⟨kvs, .inl x, .inl (w2.ok _ _ hd2), r1, rfl⟩, q _ w2 (e1.trans e3) (by rw [hp]; rfl)⟩
theorem ev_dgetZ {d : Addr} {od : Obj} {kvs : List (Key × V)} {x : Key} {v : V} (hl : Own w d (.frz od (.dK kvs))) (hv : σ[i]? = some (some (.ref d))) (hk : Ev J0 ta σ w (Is (kV x))) (hx : valV kvs x = some v) (hr : R.r w.f v) : Ev J0 (tDGet (tVar i) ta) σ w R := fun w' e Q q =>
  ⟨.ref d, hv, hk w' e _ fun y w2 e2 r2 => ⟨d, v, rfl, .inl ⟨kvs, x, .inr ⟨od, (hl.le0 (e.trans e2)).h⟩, r2, hx.symm⟩, q v w2 e2 (R.mono (e.trans e2).ef hr)⟩⟩
/-- how often arrows lead somewhere -/
structure CntD (f : M7.Fn) (l : List Int) (es : List (Key × V)) : Prop where
  val : ∀ x, valV es (.inl x) = if cnt f l x = 0 then none else some (.int (cnt f l x))
  len : es.length ≤ l.length
  keys : ∀ q ∈ es, ∃ x, q.1 = .inl x
theorem cnt_snoc (f : M7.Fn) (l : List Int) (c x : Int) : cnt f (l ++ [c]) x = cnt f l x + if f c = some x then 1 else 0 := by
  unfold cnt
  rw [List.countP_append]
  congr 1
  by_cases h : f c = some x
  · rw [if_pos h, List.countP_cons_of_pos (by simp [h])]; rfl
  · rw [if_neg h, List.countP_cons_of_neg (by simp [h])]; rfl
theorem putK_len {kvs : List (Key × V)} {k : Key} {v : V} : (putK kvs k v).length ≤ kvs.length + 1 := by
  unfold putK
  split
  · simp
  · simp
theorem putK_keys {kvs : List (Key × V)} {k : Key} {v : V} {q : Key × V} (h : q ∈ putK kvs k v) : q.1 = k ∨ ∃ r ∈ kvs, q.1 = r.1 := by
  unfold putK at h
  split at h
  · obtain ⟨r, hr, rfl⟩ := List.mem_map.mp h
    by_cases e : r.1 = k
    · rw [if_pos e]; exact .inl e
    · rw [if_neg e]; exact .inr ⟨r, hr, rfl⟩
  · rcases List.mem_append.mp h with h | h
    · exact .inr ⟨q, h, rfl⟩
    · rw [List.mem_singleton.mp h]; exact .inl rfl
theorem CntD.snoc {f : M7.Fn} {l : List Int} {es : List (Key × V)} {c a : Int} (C : CntD f l es) (h : f c = some a) : CntD f (l ++ [c]) (putK es (.inl a) (.int (cnt f l a + 1))) where
  val := fun x => by
    rw [valV_put, cnt_snoc, h]
    by_cases e : x = a
    · subst e
      rw [if_pos rfl, if_pos rfl, if_neg (by omega)]
      simp
    · have e2 : ¬ (Sum.inl x : Key) = .inl a := fun q => e (Sum.inl.inj q)
      have e3 : ¬ some a = some x := fun q => e (Option.some.inj q).symm
      rw [if_neg e2, if_neg e3, C.val x]
      simp
  len := by
    have := putK_len (kvs := es) (k := .inl a) (v := .int (cnt f l a + 1))
    have := C.len
    rw [List.length_append, List.length_singleton]
    omega
  keys := fun q hq => by
    rcases putK_keys hq with h1 | ⟨r, hr, h1⟩
    · exact ⟨a, h1⟩
    · obtain ⟨x, hx⟩ := C.keys r hr
      exact ⟨x, h1.trans hx⟩
theorem valV_mem {kvs : List (Key × V)} {k : Key} {v : V} (h : (k, v) ∈ kvs) : (valV kvs k).isSome = true := by
  rw [← valV_any]
  exact List.any_eq_true.mpr ⟨_, h, by simp⟩
theorem valV_key {kvs : List (Key × V)} {k : Key} (h : (valV kvs k).isSome = true) : ∃ v, (k, v) ∈ kvs := by
  rw [← valV_any] at h
  obtain ⟨q, hq, e⟩ := List.any_eq_true.mp h
  have : q.1 = k := by simpa using e
  subst this
  exact ⟨q.2, hq⟩
theorem pn_places (T : Txt K mg cS cP) (vc : VC cs) (vn : VN ns) (v : V) (d : Addr) (w : Wd) (h : (StoR K cS ns cs).r w.f v) (own : Own w d (.dK (dOf (comeOf ns cs)))) (Q : VK) (q : ∀ u w', Le J0 w w' → (PlR (knotK ns cs)).r w'.f u → Q u w'.h) : p_knot_places K cS cP [v, .ref d] w.h Q E0 := by
  classical
  have hfew := vc.few
  have h4 := vn.four
  have hcl := M7.come_len ns cs
  have C := M7.come_is ns cs
  refine ⟨rfl, st_par (en_dic (J := J0) w .rfl _ fun de o w1 e1 hde owe ho => en_dic (J := J0) w1 .rfl _ fun dn o' w2 e2 hdn own' ho' => ?_)⟩
  subst ho
  subst ho'
  have hdn0 : w.h dn = none := e1.fresh hdn
  have nde : de ≠ d := fun z => by subst z; rw [own.h] at hde; cases hde
  have ndn : dn ≠ d := fun z => by subst z; rw [own.h] at hdn0; cases hdn0
  have nen : dn ≠ de := fun z => by subst z; rw [owe.h] at hdn; cases hdn
  have owe2 := owe.le0 e2
  have own2 := own.le0 (e1.trans e2)
  refine st_lockKeys (i := 1) own2 rfl (fun od n σ1 wl => ∃ wu es x y, σ1 = [some v, some (.ref d), some (.ref de), some (.ref dn), x, y, none, none] ∧ Lk d (.dK (dOf (comeOf ns cs))) (.frz od (.dK (dOf (comeOf ns cs)))) wu wl ∧ Le J0 w wu ∧
      Own wu de (.dK es) ∧ Own wu dn (.dK []) ∧ CntD (arr cs) ((comeOf ns cs).take n) es)
    (fun od wl ml => ⟨w2, [], none, none, rfl, ⟨own2, ml⟩, e1.trans e2, owe2, own', ⟨fun x => by simp [valV_nil, cnt], by simp, by simp⟩⟩) ?_ ?_
  · rintro od n σ1 wl k vv hk ⟨wu, es, x, y, rfl, lk, l0, oe, on, cd⟩ _ Kk bk rt hK
    have hn : n < (comeOf ns cs).length := by
      have := (List.getElem?_eq_some_iff.mp hk).1
      rwa [dOf_len] at this
    have hk2 : k = .inl (comeOf ns cs)[n] := by
      unfold dOf at hk
      rw [List.getElem?_map, List.getElem?_eq_getElem hn] at hk
      exact (Prod.mk.inj (Option.some.inj hk)).1.symm
    subst hk2
    obtain ⟨⟨a, ha⟩, _⟩ := (C.mem _).mp (List.getElem_mem hn)
    show tSeq _ _ _ [some v, some (.ref d), some (.ref de), some (.ref dn), some (.int (comeOf ns cs)[n]), y, none, none] wl.h
    have hvl : ∀ {wl2 : Wd}, Le J0 wl wl2 → (StoR K cS ns cs).r wl2.f v := fun e => Rp.mono _ e.ef (by rw [lk.mt.f]; exact Rp.mono _ l0.ef h)
    refine st_asg (J := J0) (ev_dget (R := RI a) (v := .int a) (x := .inl (comeOf ns cs)[n]) (ev_arrows T (ev_var (v := v) rfl (hvl .rfl))) (ev_is (v := .int (comeOf ns cs)[n]) rfl) (by rw [val_kvs, ha]; rfl) fun _ _ => rfl) fun u w3 e3 hu => ?_
    cases hu
    obtain ⟨wu3, lk3, lu3⟩ := lk.le e3
    have oe3 : Own w3 de (.dK es) := ((oe.le0 lu3).mt lk3.mt nde)
    have hget : (valV es (.inl a)).getD (.int 0) = .int (cnt (arr cs) ((comeOf ns cs).take n) a) := by
      rw [cd.val]
      split
      · next h => rw [h]; rfl
      · rfl
    refine st_setD (J := J0) (x := .inl a) oe3 id rfl (ev_is (v := .int a) rfl) (R := RI (cnt (arr cs) ((comeOf ns cs).take n) a + 1)) (ev_add (a := cnt (arr cs) ((comeOf ns cs).take n) a) (b := 1) (ev_dget2O (x := .inl a) (v := .int 0) oe3 id rfl (ev_is (v := .int a) rfl) ev_cv hget) ev_cv) (by have := cd.len; rw [List.length_take] at this; omega) fun u w4 w5 e4 hu m5 => ?_
    cases hu
    obtain ⟨wu4, lk4, lu4⟩ := lk3.le e4
    obtain ⟨wu5, lk5, mu5⟩ := lk4.put m5 nde
    have oe4 : Own wu4 de (.dK es) := (oe.le0 lu3).le0 lu4
    have l4 := (l0.trans lu3).trans lu4
    refine hK _ w5 lk5.at ⟨wu5, _, _, _, rfl, lk5, l4.mt mu5 hde oe4.f, mu5.own oe4.f, ((on.le0 lu3).le0 lu4).mt mu5 nen, ?_⟩
    rw [List.take_succ_eq_append_getElem hn]
    exact cd.snoc ha
  rintro od σ1 wl w3 ⟨wu, es, x, y, rfl, lk, l0, oe, on, cd⟩ _ m3
  have e3 := lk.back m3
  subst e3
  rw [dOf_len, List.take_length] at cd
  have hv3 : Ev J0 (tVar 0) [some v, some (.ref d), some (.ref de), some (.ref dn), x, y, none, none] w3 (StoR K cS ns cs) := ev_var (v := v) rfl (Rp.mono _ l0.ef h)
  refine st_for (J := J0) (src_tup (ev_namesR T hv3)) (fun n σ1 w4 => Le J0 w w4 ∧ ∃ fs a b, σ1 = [some v, some (.ref d), some (.ref de), some (.ref dn), x, y, a, b] ∧ Own w4 de (.dK es) ∧ Own w4 dn (.dK fs) ∧ fs.length ≤ n ∧ ∀ x, (valV fs (.inl x)).isSome = decide (x ∈ (headsOf ns).take n))
    (fun w4 e4 => ⟨l0.trans e4, [], none, none, rfl, oe.le0 e4, on.le0 e4, by simp, fun x => by simp [valV_nil]⟩) ?_ ?_
  · rintro n σ1 w4 hn ⟨l4, fs, a, b, rfl, oe4, on4, hfl, hfs⟩ z w5 e5 hz Kk hK
    have hn' : n < ns.length := by simpa using hn
    have hn2 : n < (headsOf ns).length := by simpa [headsOf] using hn'
    rw [getD_map hn'] at hz
    refine g_two hz fun c p hc hp => ?_
    cases hp
    show sDPut _ _ _ _ [some v, some (.ref d), some (.ref de), some (.ref dn), x, y, some c, some (.int ns[n].2)] w5.h
    refine st_setD (J := J0) (x := .inl ns[n].2) (on4.le0 e5) id rfl (ev_is (v := .int ns[n].2) rfl) (R := Is (.bl true)) ev_cv (by omega) fun u w6 w7 e6 hu m7 => ?_
    cases hu
    have on6 := (on4.le0 e5).le0 e6
    have oe6 := (oe4.le0 e5).le0 e6
    refine hK _ w7 (fun p o h => m7.ef p o (e6.ef p o (e5.ef p o h))) ⟨((l4.trans e5).trans e6).mt m7 hdn0 on6.f, _, _, _, rfl, oe6.mt m7 nen.symm, m7.own on6.f, by have := putK_len (kvs := fs) (k := .inl ns[n].2) (v := .bl true); omega, fun x => ?_⟩
    rw [valV_put, List.take_succ_eq_append_getElem hn2]
    have e2 : (headsOf ns)[n] = ns[n].2 := by simp [headsOf]
    by_cases ex : x = ns[n].2
    · subst ex
      rw [if_pos rfl, e2]
      simp
    · rw [if_neg (fun z => ex (Sum.inl.inj z)), hfs, e2]
      simp [ex]
  rintro σ1 w4 ⟨l4, fs, a, b, rfl, oe4, on4, hfl, hfs⟩
  have hfl4 : fs.length ≤ 4 := by simp at hfl; omega
  have hheads : (headsOf ns).take (ns.map (nmR K)).length = headsOf ns := by rw [List.take_of_length_le (by simp [headsOf])]
  rw [hheads] at hfs
  have hfew2 : es.length ≤ 100 := by have := cd.len; omega
  refine st_lockKeys (i := 2) oe4 rfl (fun od n σ1 wl => ∃ wu fs b', σ1 = [some v, some (.ref d), some (.ref de), some (.ref dn), x, y, a, b'] ∧ Lk de (.dK es) (.frz od (.dK es)) wu wl ∧ Le J0 w wu ∧ Own wu dn (.dK fs) ∧ fs.length ≤ 4 + n ∧
      ∀ x, (valV fs (.inl x)).isSome = (decide (x ∈ headsOf ns) || decide (∃ v, (Sum.inl x, v) ∈ es.take n) && ((arr cs x).isNone || decide (1 < cnt (arr cs) (comeOf ns cs) x))))
    (fun od wl ml => ⟨w4, fs, b, rfl, ⟨oe4, ml⟩, l4, on4, by omega, fun x => by rw [hfs]; simp⟩) ?_ ?_
  · rintro od n σ1 wl k vv hk ⟨wu, fs, b', rfl, lk, lu, on5, hfl5, hfs5⟩ _ Kk bk rt hK
    obtain ⟨hn, hke⟩ := List.getElem?_eq_some_iff.mp hk
    have hmem : (k, vv) ∈ es := hke ▸ List.getElem_mem hn
    obtain ⟨p, hp⟩ := cd.keys _ hmem
    simp only at hp
    subst hp
    have hpos : cnt (arr cs) (comeOf ns cs) p ≠ 0 := fun z => by
      have h1 := valV_mem hmem
      rw [cd.val, if_pos z] at h1
      cases h1
    have hval : valV es (.inl p) = some (.int (cnt (arr cs) (comeOf ns cs) p)) := by rw [cd.val, if_neg hpos]
    have hvl : Ev J0 (tVar 0) [some v, some (.ref d), some (.ref de), some (.ref dn), x, y, a, some (.int p)] wl (StoR K cS ns cs) := ev_var (v := v) rfl (by rw [lk.mt.f]; exact Rp.mono _ lu.ef h)
    have onl : Own wl dn (.dK fs) := on5.mt lk.mt nen
    have htake : es.take (n + 1) = es.take n ++ [(.inl p, vv)] := by rw [List.take_succ_eq_append_getElem hn, hke]
    have hstep : ∀ x, (decide (x ∈ headsOf ns) || decide (∃ v, (Sum.inl x, v) ∈ es.take (n + 1)) && ((arr cs x).isNone || decide (1 < cnt (arr cs) (comeOf ns cs) x))) =
        ((decide (x ∈ headsOf ns) || decide (∃ v, (Sum.inl x, v) ∈ es.take n) && ((arr cs x).isNone || decide (1 < cnt (arr cs) (comeOf ns cs) x))) || (decide (x = p) && ((arr cs p).isNone || decide (1 < cnt (arr cs) (comeOf ns cs) p)))) := fun x => by
      have : (∃ v, ((Sum.inl x : Key), v) ∈ es.take (n + 1)) ↔ (∃ v, (Sum.inl x, v) ∈ es.take n) ∨ x = p := by
        rw [htake]
        constructor
        · rintro ⟨u, hu⟩
          rcases List.mem_append.mp hu with hu | hu
          · exact .inl ⟨u, hu⟩
          · have := List.mem_singleton.mp hu
            exact .inr (Sum.inl.inj (Prod.mk.inj this).1)
        · rintro (⟨u, hu⟩ | rfl)
          · exact ⟨u, List.mem_append_left _ hu⟩
          · exact ⟨vv, by simp⟩
      have e0 : decide (∃ v, ((Sum.inl x : Key), v) ∈ es.take (n + 1)) = (decide (∃ v, ((Sum.inl x : Key), v) ∈ es.take n) || decide (x = p)) := by
        rw [Bool.eq_iff_iff]
        simp only [decide_eq_true_eq, Bool.or_eq_true]
        exact this
      rw [e0]
      by_cases hx : x = p
      · subst hx
        cases decide (∃ v, ((Sum.inl x : Key), v) ∈ es.take n) <;> cases decide (x ∈ headsOf ns) <;> simp
      · simp [hx]
    refine st_if (J := J0) (et_or (a := !(valV (kvsOf cs) (.inl p)).isSome) (b := decide (1 < cnt (arr cs) (comeOf ns cs) p)) (et_b (ev_dni (x := .inl p) (ev_arrows T hvl) (ev_is (v := .int p) rfl)))
      (fun _ => et_test (ev_gt (b := 1) (ev_dgetZ (R := RI (cnt (arr cs) (comeOf ns cs) p)) (x := .inl p) lk.at rfl (ev_is (v := .int p) rfl) hval rfl) ev_cv (by rw [decide_eq_decide]; omega))) rfl) ?_ ?_
    · intro hb w5 e5
      obtain ⟨wu5, lk5, lu5⟩ := lk.le e5
      refine st_setD (J := J0) (x := .inl p) (onl.le0 e5) id rfl (ev_is (v := .int p) rfl) (R := Is (.bl true)) ev_cv (by omega) fun u w6 w7 e6 hu m7 => ?_
      cases hu
      obtain ⟨wu6, lk6, lu6⟩ := lk5.le e6
      obtain ⟨wu7, lk7, mu7⟩ := lk6.put m7 nen
      have on6 := (on5.le0 lu5).le0 lu6
      refine hK _ w7 lk7.at ⟨wu7, _, _, rfl, lk7, ((lu.trans lu5).trans lu6).mt mu7 hdn0 on6.f, mu7.own on6.f, by have := putK_len (kvs := fs) (k := .inl p) (v := .bl true); omega, fun x => ?_⟩
      rw [valV_put, hstep, ← hfs5]
      have hb' : ((arr cs p).isNone || decide (1 < cnt (arr cs) (comeOf ns cs) p)) = true := by
        rw [val_kvs] at hb
        cases hq : arr cs p with
        | none => rfl
        | some z => rw [hq] at hb; simpa using hb.symm
      by_cases ex : x = p
      · subst ex
        rw [if_pos rfl, hb']
        simp
      · rw [if_neg (fun z => ex (Sum.inl.inj z))]
        simp [ex]
    · intro hb w5 e5
      obtain ⟨wu5, lk5, lu5⟩ := lk.le e5
      refine hK _ w5 lk5.at ⟨wu5, fs, _, rfl, lk5, lu.trans lu5, on5.le0 lu5, by omega, fun x => ?_⟩
      have hb' : ((arr cs p).isNone || decide (1 < cnt (arr cs) (comeOf ns cs) p)) = false := by
        rw [val_kvs] at hb
        cases hq : arr cs p with
        | none => rw [hq] at hb; simp at hb
        | some z => rw [hq] at hb; simpa using hb.symm
      rw [hstep, ← hfs5, hb']
      simp
  rintro od σ1 wl w5 ⟨wu, fs, b', rfl, lk, lu, on5, hfl5, hfs5⟩ _ m5
  have e5 := lk.back m5
  subst e5
  have ow : w5.h dn = some (.dK fs) := on5.h
  refine ⟨.ref dn, rfl, q (.ref dn) (w5.pub dn _ ow) (lu.pub hdn0 ow) ⟨dn, fs, rfl, pub_at ow, fun x => ?_⟩⟩
  rw [hfs5, List.take_length]
  unfold knotK isK
  have : (∃ v, ((Sum.inl x : Key), v) ∈ es) ↔ 0 < cnt (arr cs) (comeOf ns cs) x := by
    constructor
    · rintro ⟨u, hu⟩
      have h1 := valV_mem hu
      rw [cd.val] at h1
      by_cases z : cnt (arr cs) (comeOf ns cs) x = 0
      · rw [if_pos z] at h1; cases h1
      · omega
    · intro hc
      refine valV_key ?_
      rw [cd.val, if_neg (by omega)]
      rfl
  have e0 : decide (∃ v, ((Sum.inl x : Key), v) ∈ es) = decide (0 < cnt (arr cs) (comeOf ns cs) x) := by
    rw [Bool.eq_iff_iff]
    simp only [decide_eq_true_eq]
    exact this
  rw [e0, List.contains_eq_mem]
end
end Z
end

section -- P6
set_option Elab.async false
set_option linter.all false
set_option maxRecDepth 100000
set_option maxHeartbeats 4000000
set_option autoImplicit false
namespace Z
open PySem PySem.Spec L2 K07
open M7 (Names Cells Kn Kd arr headsOf comeOf knotK knotL foundOf strOf reachGo reachAll ordGo ordAll stretch strGo cnt isK cellKnots)
abbrev intD (l : List Int) : List PyData := l.map PyData.int
theorem ints_dat {K : PySem.W.Frag} {f : Hp} : ∀ {l : List Int} {xs : List V}, DpAll K f xs (intD l) ↔ xs = l.map V.int
  | [], xs => ⟨fun h => by cases h; rfl, fun h => by subst h; exact .nil⟩
  | a :: l, xs => ⟨fun h => by
      cases h with
      | cons h1 h2 => cases h1; rw [ints_dat.mp h2]; rfl, fun h => by subst h; exact .cons (.int a) (ints_dat.mpr rfl)⟩
theorem allR_ints {f : Hp} : ∀ {l : List Int} {xs : List V}, AllR f (l.map RI) xs ↔ xs = l.map V.int
  | [], xs => ⟨fun h => h.nil_inv, fun h => by subst h; trivial⟩
  | a :: l, xs => ⟨fun h => by
      obtain ⟨v, ws, rfl, h1, h2⟩ := h.cons_inv
      cases h1
      rw [allR_ints.mp h2]
      rfl, fun h => by subst h; exact ⟨rfl, allR_ints.mpr rfl⟩⟩
theorem lst_ints {K : PySem.W.Frag} {f : Hp} {l : List Int} {v : V} : (LstR K (l.map RI)).r f v ↔ (Dat K (.list (intD l))).r f v := by
  constructor
  · rintro ⟨a, xs, rfl, h1, h2⟩
    exact Dp.lst h1 (ints_dat.mpr (allR_ints.mp h2))
  · intro h
    cases h with
    | lst h1 h2 => exact ⟨_, _, rfl, h1, allR_ints.mpr (ints_dat.mp h2)⟩
theorem tup_ints {K : PySem.W.Frag} {f : Hp} {l : List Int} {v : V} : (TupR K (l.map RI)).r f v ↔ (Dat K (.tuple (intD l))).r f v := by
  constructor
  · rintro ⟨a, xs, rfl, h1, h2⟩
    exact Dp.tup h1 (ints_dat.mpr (allR_ints.mp h2))
  · intro h
    cases h with
    | tup h1 h2 => exact ⟨_, _, rfl, h1, allR_ints.mpr (ints_dat.mp h2)⟩
section
variable {J : Addr → Prop} {σ : St} {w w0 w1 : Wd} {ta tb t te : TE} {K : PySem.W.Frag} {cS cP : Addr} {mg : PySem.Str → Option Value} {ns : Names} {cs : Cells} {D : Ends} {sa : TS} {g : TG} {i : Nat} {R : Rp}
theorem st_ifS {tt : TT} {sb rest : TS} {P : Bool → Prop} (h : EvT J tt σ w P) (h1 : P true → ∀ w', Le J w w' → sa { D with nx := rest D } σ w'.h) (h2 : P false → ∀ w', Le J w w' → sb { D with nx := rest D } σ w'.h) : tSeq (tIfS tt sa sb) rest D σ w.h := h w .rfl _ fun b w' e p => by
  cases b with
  | true => exact h1 p w' e
  | false => exact h2 p w' e
theorem pub_lst {l : Addr} {xs : List V} {w : Wd} {Rs : List Rp} (own : Own w l (.lst xs)) (a : AllR w.f Rs xs) : (LstR K Rs).r (w.pub l _ own.h).f (.ref l) := ⟨l, xs, rfl, .inl (.inl (pub_at own.h)), a.mono (pub_ef own.h own.f)⟩
theorem ordGo_succ {f : M7.Fn} {P : Int → Bool} {n : Nat} {fd r : List Int} {p : Int} (h : ordGo f P n fd p = some r) : ∃ m, n = m + 1 := by
  cases n with
  | zero => simp [ordGo] at h
  | succ m => exact ⟨m, rfl⟩
theorem pu_ordered (T : Txt K mg cS cP) (vc : VC cs) (vn : VN ns) {P : Int → Bool} {r : List Int} {N : Nat} (hN : N ≤ 1000) (hr : ordAll (arr cs) P N (headsOf ns) [] = some r) : Pu0 (p_ordered_knots K cS cP) [StoR K cS ns cs, PlR P] (LstR K (r.map RI)) := pu_2 fun v u w h hu Q q => by
  have h4 := vn.four
  refine st_par (en_dic (J := J0) w .rfl _ fun dn o w1 e1 hdn own1 ho => en_lst (J := J0) ea_nil (by simp) w1 .rfl _ fun l o' w2 e2 hl own2 ⟨xs, ho', hxs⟩ => ?_)
  subst ho
  cases hxs.nil_inv
  subst ho'
  have hl0 : w.h l = none := e1.fresh hl
  have nln : l ≠ dn := fun z => by subst z; rw [own1.h] at hl; cases hl
  have own12 := own1.le0 e2
  have l2 := e1.trans e2
  refine st_for (J := J0) (src_tup (ev_namesR T (ev_var (R := StoR K cS ns cs) (v := v) rfl (Rp.mono _ l2.ef h)))) (fun i σ1 w3 => Le J0 w w3 ∧ ∃ fd x y, σ1 = [some v, some u, some (.ref dn), some (.ref l), x, y] ∧ Own w3 dn (.dK (dOf fd)) ∧ Own w3 l (.lst (fd.map V.int)) ∧
      ordAll (arr cs) P N ((headsOf ns).drop i) fd = some r ∧ fd.length ≤ i * N)
    (fun w3 e3 => ⟨l2.trans e3, [], none, none, rfl, own12.le0 e3, own2.le0 e3, hr, by simp⟩) ?_ ?_
  · rintro i σ1 w3 hi ⟨l3, fd, x, y, rfl, ow1, ow2, hrr, hlen⟩ z w4 e4 hz Kk hK
    have hi' : i < ns.length := by simpa using hi
    rw [getD_map hi'] at hz
    refine g_two hz fun a b ha hb => ?_
    cases hb
    have hdr : (headsOf ns).drop i = ns[i].2 :: (headsOf ns).drop (i + 1) := by
      have hi2 : i < (headsOf ns).length := by simpa [headsOf] using hi'
      rw [List.drop_eq_getElem_cons hi2]
      simp [headsOf]
    rw [hdr] at hrr
    simp only [ordAll, Option.bind_eq_some_iff] at hrr
    obtain ⟨r2, hr1, hr2⟩ := hrr
    show tWhile _ _ _ [some v, some u, some (.ref dn), some (.ref l), some a, some (.int ns[i].2)] w4.h
    have hmul : (i + 1) * N = i * N + N := by rw [Nat.add_mul]; omega
    have hbig : (i + 1) * N ≤ 4 * 1000 := Nat.mul_le_mul (by omega) (by omega)
    refine st_while (J := J0) (m0 := N) (fun m σ1 w5 => Le J0 w w5 ∧ Exf w3.f w5.f ∧ ∃ fd p, σ1 = [some v, some u, some (.ref dn), some (.ref l), some a, some (.int p)] ∧ Own w5 dn (.dK (dOf fd)) ∧ Own w5 l (.lst (fd.map V.int)) ∧ ordGo (arr cs) P m fd p = some r2 ∧ fd.length + m ≤ (i + 1) * N)
      ⟨l3.trans e4, e4.ef, fd, _, rfl, ow1.le0 e4, ow2.le0 e4, hr1, by omega⟩ ?_
    rintro m σ1 w5 ⟨l5, ef5, fd, p, rfl, ow1, ow2, hg, hm⟩
    obtain ⟨m, rfl⟩ := ordGo_succ hg
    refine ⟨_, et_b (ev_dniO (x := .inl p) ow1 id rfl (ev_is (v := .int p) rfl)), fun hb w6 e6 Kw hKw => ?_, fun hb w6 e6 => ?_⟩
    · rw [val_dOf] at hb
      have hp : p ∉ fd := by simpa using hb
      unfold ordGo at hg
      rw [if_neg hp] at hg
      have l6 := l5.trans e6
      have hsto : ∀ {w7 : Wd}, Le J0 w w7 → (StoR K cS ns cs).r w7.f v := fun e => Rp.mono _ e.ef h
      -- what follows the gathering
      have rest : ∀ (fd2 : List Int) (w7 : Wd), Le J0 w w7 → Exf w3.f w7.f → Own w7 dn (.dK (dOf fd2)) → Own w7 l (.lst (fd2.map V.int)) → fd2.length ≤ fd.length + 1 → (match arr cs p with | none => some fd2 | some q => ordGo (arr cs) P m fd2 q) = some r2 →
          tSeq (tIfS (tB (tDNotIn (tVar 5) (tFld K (tVar 0) "arrows"))) tBreak tNext) (tAsg (tDGet (tFld K (tVar 0) "arrows") (tVar 5)) (gName 5)) { nx := Kw, rt := Q, bk := Kk, ct := Kw } [some v, some u, some (.ref dn), some (.ref l), some a, some (.int p)] w7.h := by
        intro fd2 w7 l7 ef7 o1 o2 hl2 hg2
        refine st_ifS (J := J0) (et_b (ev_dni (x := .inl p) (ev_arrows T (ev_var (v := v) rfl (hsto l7))) (ev_is (v := .int p) rfl))) (fun hb8 w8 e8 => ?_) fun hb8 w8 e8 => ?_
        · rw [val_kvs] at hb8
          cases hq : arr cs p with
          | some q' => rw [hq] at hb8; cases hb8
          | none =>
            rw [hq] at hg2
            cases hg2
            exact hK _ w8 (fun p o h => e8.ef p o (ef7 p o h)) ⟨l7.trans e8, r2, some a, some (.int p), rfl, o1.le0 e8, o2.le0 e8, hr2, by omega⟩
        · rw [val_kvs] at hb8
          cases hq : arr cs p with
          | none => rw [hq] at hb8; cases hb8
          | some q' =>
            rw [hq] at hg2
            refine st_asg (J := J0) (ev_dget (R := RI q') (v := .int q') (x := .inl p) (ev_arrows T (ev_var (v := v) rfl (hsto (l7.trans e8)))) (ev_is (v := .int p) rfl) (by rw [val_kvs, hq]; rfl) fun _ _ => rfl) fun u' w9 e9 hu9 => ?_
            cases hu9
            exact hKw m _ w9 (Nat.lt_succ_self m) ⟨(l7.trans e8).trans e9, fun p o h => e9.ef p o (e8.ef p o (ef7 p o h)), fd2, q', rfl, (o1.le0 e8).le0 e9, (o2.le0 e8).le0 e9, hg2, by omega⟩
      refine st_ifS (J := J0) (et_b (ev_pin (P := P) (x := p) (ev_var (v := u) rfl (Rp.mono _ l6.ef hu)) (ev_is (v := .int p) rfl))) (fun hP w7 e7 => ?_) fun hP w7 e7 => ?_
      rotate_left
      · have l7 := l6.trans e7
        rw [← hP] at hg
        exact rest fd w7 l7 (fun p o h => e7.ef p o (e6.ef p o (ef5 p o h))) ((ow1.le0 e6).le0 e7) ((ow2.le0 e6).le0 e7) (by omega) hg
      · have l7 := l6.trans e7
        rw [← hP] at hg
        refine st_setD (J := J0) (x := .inl p) ((ow1.le0 e6).le0 e7) id rfl (ev_is (v := .int p) rfl) (R := Is (.bl true)) ev_cv (by rw [dOf_len]; omega) fun u8 w8 w9 e8 hu8 m9 => ?_
        cases hu8
        have o8 := ((ow1.le0 e6).le0 e7).le0 e8
        have o8' := ((ow2.le0 e6).le0 e7).le0 e8
        have o9 := m9.own o8.f
        rw [put_dOf hp] at o9
        have l9 := (l7.trans e8).mt m9 hdn o8.f
        have o9' := o8'.mt m9 nln
        refine st_app (J := J0) (R := RI p) o9' id rfl (ev_is rfl) (by rw [List.length_map]; omega) fun u10 w10 w11 e10 hu10 m11 => ?_
        cases hu10
        have o10' := o9'.le0 e10
        have o11' := m11.own o10'.f
        have o11 := (o9.le0 e10).mt m11 nln.symm
        have l11 := (l9.trans e10).mt m11 hl0 o10'.f
        exact rest (fd ++ [p]) w11 l11 (fun p o h => m11.ef p o (e10.ef p o (m9.ef p o (e8.ef p o (e7.ef p o (e6.ef p o (ef5 p o h))))))) o11 (by rw [List.map_append]; exact o11') (by simp) hg
    · rw [val_dOf] at hb
      have hp : p ∈ fd := by simpa using hb
      unfold ordGo at hg
      rw [if_pos hp] at hg
      cases hg
      exact hK _ w6 (fun p o h => e6.ef p o (ef5 p o h)) ⟨l5.trans e6, r2, some a, some (.int p), rfl, ow1.le0 e6, ow2.le0 e6, hr2, by omega⟩
  · rintro σ1 w3 ⟨l3, fd, x, y, rfl, ow1, ow2, hrr, hlen⟩
    have e : (headsOf ns).drop (ns.map (nmR K)).length = [] := by simp [headsOf]
    rw [e] at hrr
    cases hrr
    exact ⟨.ref l, rfl, q _ (w3.pub l _ ow2.h) (l3.pub hl0 ow2.h) (pub_lst ow2 (allR_ints.mpr rfl))⟩
end
end Z
end

section -- P7
set_option Elab.async false
set_option linter.all false
set_option maxRecDepth 100000
set_option maxHeartbeats 4000000
set_option autoImplicit false
namespace Z
open PySem PySem.Spec L2 K07
open M7 (Names Cells Kn Kd arr headsOf comeOf knotK knotL foundOf strOf reachGo reachAll ordGo ordAll stretch strGo cnt isK cellKnots)
section
variable {J : Addr → Prop} {σ : St} {w w0 w1 : Wd} {ta tb t te : TE} {K : PySem.W.Frag} {cS cP : Addr} {mg : PySem.Str → Option Value} {ns : Names} {cs : Cells} {D : Ends} {sa : TS} {g : TG} {i : Nat} {R : Rp}
theorem sq_asg {rest : TS} (h : Ev J te σ w R) (k : ∀ v w', Le J w w' → R.r w'.f v → rest D (σ.set i (some v)) w'.h) : tSeq (tAsg te (gName i)) rest D σ w.h := h w .rfl _ k
theorem sq_asgG {rest : TS} (h : Ev J te σ w R) (k : ∀ v w', Le J w w' → R.r w'.f v → g v σ w'.h (rest D)) : tSeq (tAsg te g) rest D σ w.h := h w .rfl _ k
theorem sq_asgN {rest : TS} {Φ : Hp → HO → Prop} (h : EvN J te σ w Φ) (k : ∀ p o w', Le J w w' → w.h p = none → Own w' p o → Φ w'.f o → rest D (σ.set i (some (.ref p))) w'.h) : tSeq (tAsg te (gName i)) rest D σ w.h := h w .rfl _ k
theorem sq_drop {rest : TS} (h : Ev J te σ w R) (k : ∀ v w', Le J w w' → R.r w'.f v → rest D σ w'.h) : tSeq (tDrop te) rest D σ w.h := h w .rfl _ k
theorem strGo_succ {f : M7.Fn} {P : Int → Bool} {n : Nat} {c : List Int} {r : List Int × Int} {p : Int} (h : strGo f P n c p = some r) : ∃ m, n = m + 1 := by
  cases n with
  | zero => simp [strGo] at h
  | succ m => exact ⟨m, rfl⟩
def strR (K : PySem.W.Frag) (q : List Int × Int) : Rp := TupR K [TupD K (intD q.1), RI q.2]
theorem pu_stretch (T : Txt K mg cS cP) {P : Int → Bool} {r : List Int × Int} {k : Int} {N : Nat} (hN : N ≤ 1000) (hr : stretch (arr cs) P N k = some r) : Pu0 (p_stretch_from K cS cP) [StoR K cS ns cs, PlR P, RI k] (strR K r) := pu_3 fun v u x w h hu hx Q q => by
  cases hx
  unfold stretch at hr
  rw [Option.bind_eq_some_iff] at hr
  obtain ⟨b, hb, hg⟩ := hr
  refine st_par (en_lst (J := J0) (ea_cons (ev_is (v := .int k) rfl) ea_nil) (by simp) w .rfl _ fun l o w1 e1 hl own1 ⟨xs, ho, hxs⟩ => ?_)
  obtain ⟨y, ys, rfl, hy, hxs⟩ := hxs.cons_inv
  cases hxs.nil_inv
  cases hy
  subst ho
  refine ev_dget (J := J0) (R := RI b) (v := .int b) (x := .inl k) (ev_arrows T (ev_var (R := StoR K cS ns cs) (v := v) rfl (Rp.mono _ e1.ef h))) (ev_is (v := .int k) rfl) (by rw [val_kvs, hb]; rfl) (fun _ _ => rfl) w1 .rfl _ fun y w2 e2 hy => ?_
  cases hy
  show tSeq _ _ _ [some v, some u, some (.int k), some (.ref l), some (.int b)] w2.h
  refine st_while (J := J0) (m0 := N) (fun m σ1 w3 => Le J0 w w3 ∧ ∃ cl p, σ1 = [some v, some u, some (.int k), some (.ref l), some (.int p)] ∧ Own w3 l (.lst (cl.map V.int)) ∧ strGo (arr cs) P m cl p = some r ∧ cl.length + m ≤ N + 1)
    ⟨e1.trans e2, [k], b, rfl, own1.le0 e2, hg, by simp; omega⟩ ?_
  rintro m σ1 w3 ⟨l3, cl, p, rfl, own3, hg3, hm⟩
  obtain ⟨m, rfl⟩ := strGo_succ hg3
  refine ⟨_, et_b (ev_pni (P := P) (x := p) (ev_var (v := u) rfl (Rp.mono _ l3.ef hu)) (ev_is (v := .int p) rfl)), fun hP w4 e4 Kw hKw => ?_, fun hP w4 e4 => ?_⟩
  · have hP' : P p = false := by simpa using hP
    unfold strGo at hg3
    rw [hP'] at hg3
    cases hq : arr cs p with
    | none => rw [hq] at hg3; simp at hg3
    | some q' =>
      rw [hq] at hg3
      simp only [Bool.false_eq_true, if_false] at hg3
      refine st_app (J := J0) (R := RI p) (own3.le0 e4) id rfl (ev_is rfl) (by rw [List.length_map]; omega) fun u5 w5 w6 e5 hu5 m6 => ?_
      cases hu5
      have o5 := (own3.le0 e4).le0 e5
      have o6 := m6.own o5.f
      have l6 := ((l3.trans e4).trans e5).mt m6 hl o5.f
      refine st_asg (J := J0) (ev_dget (R := RI q') (v := .int q') (x := .inl p) (ev_arrows T (ev_var (R := StoR K cS ns cs) (v := v) rfl (Rp.mono _ l6.ef h))) (ev_is (v := .int p) rfl) (by rw [val_kvs, hq]; rfl) fun _ _ => rfl) fun u7 w7 e7 hu7 => ?_
      cases hu7
      exact hKw m _ w7 (Nat.lt_succ_self m) ⟨l6.trans e7, cl ++ [p], q', rfl, by rw [List.map_append]; exact o6.le0 e7, hg3, by rw [List.length_append, List.length_singleton]; omega⟩
  · have hP' : P p = true := by simpa using hP
    unfold strGo at hg3
    rw [hP', if_pos rfl] at hg3
    cases hg3
    have o4 := own3.le0 e4
    have lp : Le J0 w (w4.pub l _ o4.h) := (l3.trans e4).pub hl o4.h
    show tRet (tTup (tCons (tCB (rTupF K) (tCons (tVar 3) tNil)) (tCons (tVar 4) tNil))) { nx := fun _ H' => Q .non H', rt := Q } [some v, some u, some (.int k), some (.ref l), some (.int p)] (w4.pub l _ o4.h).h
    have hlst : (Dat K (.list (intD cl))).r (w4.pub l _ o4.h).f (.ref l) := lst_ints.mp (pub_lst o4 (allR_ints.mpr rfl))
    exact st_ret (J := J0) (ev_tup (ea_cons (ev_tupF (ev_var (v := .ref l) rfl hlst)) (ea_cons (ev_is (v := .int p) rfl) ea_nil)) (by simp)) fun vr wr er hr => q vr wr (lp.trans er) hr
def partR (K : PySem.W.Frag) (ns : Names) (cs : Cells) : Rp := TupR K [LstR K ((foundOf ns cs).map RI), LstR K ((cellKnots (arr cs) (foundOf ns cs)).map fun k => strR K (strOf ns cs k))]
theorem found_ord (ns : Names) (cs : Cells) : ordAll (arr cs) (knotK ns cs) (cs.length + 2) (headsOf ns) [] = some (foundOf ns cs) := by
  exact M7.ordAll_eq (M7.arr_fin cs) (N := cs.length + 1) (by simp) (M7.come_is ns cs) (headsOf ns) [] (fun _ h => h) (fun y h => nomatch h)
theorem str_some (ns : Names) (cs : Cells) {k b : Int} (hk : k ∈ foundOf ns cs) (hb : arr cs k = some b) : stretch (arr cs) (knotK ns cs) (cs.length + 1) k = some (strOf ns cs k) := by
  obtain ⟨l, e, h1, h2, h3⟩ := M7.str_all ns cs hk hb
  unfold strOf
  rw [h3]
  rfl
theorem found_few (vc : VC cs) (vn : VN ns) : (foundOf ns cs).length ≤ 94 := by
  have hf := vc.few
  have h4 := vn.four
  have W := M7.whole ns cs
  -- knots are heads, or ends, or cells
  have key : ∀ x ∈ foundOf ns cs, x ∈ headsOf ns ++ cs.map (·.2) := fun x hx => by
    obtain ⟨⟨p, hp, l, hl⟩, _⟩ := (M7.found_mem ns cs x).mp hx
    rcases hl.last with ⟨_, rfl⟩ | ⟨a, c, rfl, h3, h4⟩
    · exact List.mem_append_left _ hp
    · exact List.mem_append_right _ (List.mem_map.mpr ⟨_, M7.lookup_mem h4, rfl⟩)
  have := M7.len_le_of_sub W.nodup key
  simp [headsOf] at this
  omega
theorem pu_parts (T : Txt K mg cS cP) (vc : VC cs) (vn : VN ns) : Pu0 (p_parts_of K cS cP) [StoR K cS ns cs] (partR K ns cs) := pu_1 fun v w h Q q => by
  have hf := vc.few
  have hff := found_few vc vn
  refine ⟨v, rfl, v, rfl, pn_reached T vc vn v w h _ fun d w1 e1 hd own1 => pn_places T vc vn v d w1 (Rp.mono _ e1.ef h) own1 _ fun u w2 e2 hu => ?_⟩
  show tSeq _ _ _ [some v, some u, none, none] w2.h
  have l2 := e1.trans e2
  refine sq_asg (J := J0) (ev_cl (ea_cons (ev_var (v := v) rfl (Rp.mono _ l2.ef h)) (ea_cons (ev_var (v := u) rfl hu) ea_nil)) (pu_ordered T vc vn (by omega) (found_ord ns cs)).pu) fun vo w3 e3 ho => ?_
  have l3 := l2.trans e3
  show tRet _ _ [some v, some u, some vo, none] w3.h
  have hvo : Ev J0 (tVar 2) [some v, some u, some vo, none] w3 (LstR K ((foundOf ns cs).map RI)) := ev_var (v := vo) rfl ho
  refine st_ret (J := J0) (ev_tup (ea_cons hvo (ea_cons ?_ ea_nil)) (by simp)) fun vr wr er hr => q vr wr (l3.trans er) hr
  have key : keptR (foundOf ns cs).length (fun i => ((arr cs) ((foundOf ns cs).getD i 0)).isSome) (fun i => strR K (strOf ns cs ((foundOf ns cs).getD i 0))) = (cellKnots (arr cs) (foundOf ns cs)).map fun k => strR K (strOf ns cs k) :=
    keptR_map (f := fun k => ((arr cs) k).isSome) (fun i hi => by simp [List.getD_eq_getElem?_getD, hi]) (fun i hi => by simp [List.getD_eq_getElem?_getD, hi])
  rw [← key]
  refine en_lstR (ev_lc1 _ _ ((List.length_map (as := foundOf ns cs) RI) ▸ src_list hvo) (by omega) (fun i w4 hi e4 x hx => ?_) fun _ _ => id)
  rw [getD_map hi] at hx
  cases hx
  have hgd : (foundOf ns cs).getD i 0 = (foundOf ns cs)[i] := by simp [List.getD_eq_getElem?_getD, hi]
  rw [hgd]
  have hsto : (StoR K cS ns cs).r w4.f v := Rp.mono _ (l3.trans e4).ef h
  refine ⟨et_b ((ev_din (x := .inl (foundOf ns cs)[i]) (ev_arrows T (ev_var (v := v) rfl hsto)) (ev_is (v := .int (foundOf ns cs)[i]) rfl)).of (by rw [val_kvs]; cases arr cs (foundOf ns cs)[i] <;> rfl)), fun hs => ?_⟩
  obtain ⟨b, hb⟩ := Option.isSome_iff_exists.mp hs
  exact ev_cl (ea_cons (ev_var (v := v) rfl hsto) (ea_cons (ev_var (v := u) rfl (Rp.mono _ (e3.trans e4).ef hu)) (ea_cons (ev_is (v := .int (foundOf ns cs)[i]) rfl) ea_nil))) (pu_stretch T (by omega) (str_some ns cs (List.getElem_mem hi) hb)).pu
theorem ev_parts (T : Txt K mg cS cP) (vc : VC cs) (vn : VN ns) (h : Ev J t σ w (StoR K cS ns cs)) : Ev J (tCl (p_parts_of K cS cP) (tCons t tNil)) σ w (partR K ns cs) := ev_cl (ea_cons h ea_nil) (pu_parts T vc vn).pu
theorem pu_knots_of (T : Txt K mg cS cP) (vc : VC cs) (vn : VN ns) : Pu0 (p_knots_of K cS cP) [StoR K cS ns cs] (TupD K (intD (foundOf ns cs))) := pu_1 fun v w h Q q => by
  refine sq_drop (J := J0) (ev_cl (ea_cons (ev_var (v := v) rfl h) ea_nil) pu_check_store.pu) fun _ w1 e1 _ => ?_
  refine st_ret (J := J0) (ev_tupF ((ev_ixT (n := 0) (ev_parts T vc vn (ev_var (v := v) rfl (Rp.mono _ e1.ef h))) ev_cv rfl).imp fun _ _ _ => lst_ints.mp)) fun vr wr er hr => ?_
  exact q vr wr (e1.trans er) hr
def strsD (ns : Names) (cs : Cells) : List PyData := (cellKnots (arr cs) (foundOf ns cs)).map fun k => .tuple (intD (strOf ns cs k).1)
theorem pu_stretches_of (T : Txt K mg cS cP) (vc : VC cs) (vn : VN ns) : Pu0 (p_stretches_of K cS cP) [StoR K cS ns cs] (TupD K (strsD ns cs)) := pu_1 fun v w h Q q => by
  have hff := found_few vc vn
  have hlen : (cellKnots (arr cs) (foundOf ns cs)).length ≤ 1000 := by
    have := List.length_filter_le (fun k => ((arr cs) k).isSome) (foundOf ns cs)
    unfold cellKnots
    omega
  refine sq_drop (J := J0) (ev_cl (ea_cons (ev_var (v := v) rfl h) ea_nil) pu_check_store.pu) fun _ w1 e1 _ => ?_
  refine st_ret (J := J0) (ev_tupF (ev_lstD ?_)) fun vr wr er hr => q vr wr (e1.trans er) hr
  have hlst : Ev J0 (tOp (rIxT K) (tCl (p_parts_of K cS cP) (tCons (tVar 0) tNil)) (tC (.int 1))) [some v, none, none] w1 (LstR K ((cellKnots (arr cs) (foundOf ns cs)).map fun k => strR K (strOf ns cs k))) :=
    ev_ixT (n := 1) (ev_parts T vc vn (ev_var (v := v) rfl (Rp.mono _ e1.ef h))) ev_cv rfl
  have key : keptR (cellKnots (arr cs) (foundOf ns cs)).length (fun _ => true) (fun i => Dat K (.tuple (intD (strOf ns cs ((cellKnots (arr cs) (foundOf ns cs)).getD i 0)).1))) = (strsD ns cs).map (Dat K) := by
    have := keptR_map (l := cellKnots (arr cs) (foundOf ns cs)) (f := fun _ => true) (E := fun k => Dat K (.tuple (intD (strOf ns cs k).1))) (F := fun _ => true) (G := fun i => Dat K (.tuple (intD (strOf ns cs ((cellKnots (arr cs) (foundOf ns cs)).getD i 0)).1)))
      (fun _ _ => rfl) (fun i hi => by simp [List.getD_eq_getElem?_getD, hi])
    rw [this, List.filter_eq_self.mpr (by simp), strsD, List.map_map]
    rfl
  rw [← key]
  refine en_lstR (ev_lc2 (A := fun i => TupD K (intD (strOf ns cs ((cellKnots (arr cs) (foundOf ns cs)).getD i 0)).1)) (B := fun i => RI (strOf ns cs ((cellKnots (arr cs) (foundOf ns cs)).getD i 0)).2) _ _
    ((List.length_map (as := cellKnots (arr cs) (foundOf ns cs)) (fun k => strR K (strOf ns cs k))) ▸ src_list hlst) (fun i f v hi hv => ?_) (by omega) (fun _ _ => rfl) (fun i w2 hi e2 x y hx hy => ⟨et_yes, fun _ => ev_var (v := x) rfl (TupD.dat hx)⟩) fun _ _ => id)
  rw [getD_map hi] at hv
  have hgd : (cellKnots (arr cs) (foundOf ns cs)).getD i 0 = (cellKnots (arr cs) (foundOf ns cs))[i] := by simp [List.getD_eq_getElem?_getD, hi]
  rw [hgd]
  exact hv
end
end Z
end

section -- M6
set_option linter.all false
set_option maxRecDepth 100000
set_option maxHeartbeats 4000000
set_option autoImplicit false
namespace Z
open PySem L2 K07
open M7 (Names Cells Kn Kd)
/-! ### texts joined and split -/
def jn (c : Nat) : List (List Nat) → List Nat
  | [] => []
  | [x] => x
  | x :: y :: r => x ++ c :: jn c (y :: r)
theorem join_cps (c : Nat) : ∀ ps : List Str, (Str.join ⟨#[c]⟩ ps).cps.toList = jn c (ps.map (·.cps.toList))
  | [] => rfl
  | [x] => rfl
  | x :: y :: r => by
    show ((x ++ ⟨#[c]⟩ ++ Str.join ⟨#[c]⟩ (y :: r)).cps).toList = _
    have e : ∀ a b : Str, (a ++ b).cps.toList = a.cps.toList ++ b.cps.toList := fun a b => Array.toList_append ..
    rw [e, e, join_cps c (y :: r)]
    simp [jn]
theorem cut_eq {c : Nat} : ∀ {p q X Y : List Nat}, c ∉ p → c ∉ q → p ++ c :: X = q ++ c :: Y → p = q ∧ X = Y
  | [], [], X, Y, _, _, h => ⟨rfl, (List.cons.inj h).2⟩
  | [], b :: q, X, Y, _, hq, h => absurd (List.mem_cons.mpr (.inl (List.cons.inj h).1)) hq
  | a :: p, [], X, Y, hp, _, h => absurd (List.mem_cons.mpr (.inl (List.cons.inj h).1.symm)) hp
  | a :: p, b :: q, X, Y, hp, hq, h => by
    obtain ⟨h1, h2⟩ := List.cons.inj h
    obtain ⟨h3, h4⟩ := cut_eq (fun z => hp (List.mem_cons_of_mem _ z)) (fun z => hq (List.mem_cons_of_mem _ z)) h2
    exact ⟨by rw [h1, h3], h4⟩
theorem jn_inj {c : Nat} : ∀ {ps qs : List (List Nat)}, ps ≠ [] → qs ≠ [] → (∀ p ∈ ps, c ∉ p) → (∀ q ∈ qs, c ∉ q) → jn c ps = jn c qs → ps = qs
  | [], _, h, _, _, _, _ => absurd rfl h
  | _, [], _, h, _, _, _ => absurd rfl h
  | [x], [y], _, _, _, _, h => by rw [show x = y from h]
  | [x], y :: z :: r, _, _, hp, _, h => by
    have : x = y ++ c :: jn c (z :: r) := h
    exact absurd (by rw [this]; simp) (hp x (by simp))
  | x :: y :: r, [z], _, _, _, hq, h => by
    have : x ++ c :: jn c (y :: r) = z := h
    exact absurd (by rw [← this]; simp) (hq z (by simp))
  | x :: y :: r, z :: u :: s, _, _, hp, hq, h => by
    have h' : x ++ c :: jn c (y :: r) = z ++ c :: jn c (u :: s) := h
    obtain ⟨h1, h2⟩ := cut_eq (hp x (by simp)) (hq z (by simp)) h'
    rw [h1, jn_inj (by simp) (by simp) (fun p hm => hp p (List.mem_cons_of_mem _ hm)) (fun p hm => hq p (List.mem_cons_of_mem _ hm)) h2]
theorem split_ne (x : Str) (c : Nat) : Txt.split x ⟨#[c]⟩ ≠ [] := fun h => by
  have h1 := StrLaws.join_split x ⟨#[c]⟩
  rw [h] at h1
  have h2 : x = ⟨#[]⟩ := h1.symm
  subst h2
  have : Txt.split ⟨#[]⟩ ⟨#[c]⟩ = [⟨#[]⟩] := by
    unfold Txt.split
    rw [if_pos]
    rfl
  rw [this] at h
  cases h
theorem split_join {c : Nat} {ps : List Str} (h0 : ps ≠ []) (h : ∀ p ∈ ps, c ∉ p.cps.toList) : Txt.split (Txt.join ⟨#[c]⟩ ps) ⟨#[c]⟩ = ps := by
  have e : Txt.join ⟨#[c]⟩ ps = Str.join ⟨#[c]⟩ ps := StrLaws.glued_eq_join _ _
  rw [e]
  have h1 := StrLaws.join_split (Str.join ⟨#[c]⟩ ps) ⟨#[c]⟩
  have h2 := congrArg (fun s : Str => s.cps.toList) h1
  simp only [join_cps] at h2
  have h3 := jn_inj (by simpa using split_ne _ c) (by simpa using h0) (fun p hp => by
    obtain ⟨s, hs, rfl⟩ := List.mem_map.mp hp
    exact StrLaws.split_free _ c s hs) (fun p hp => by
    obtain ⟨s, hs, rfl⟩ := List.mem_map.mp hp
    exact h s hs) h2
  refine (List.map_inj_right (f := fun s : Str => s.cps.toList) (fun a b hab => ?_)).mp h3
  cases a; cases b
  simp at hab
  rw [hab]
theorem str_ext {a b : Str} (h : a.cps.toList = b.cps.toList) : a = b := by
  cases a; cases b
  simp at h
  rw [h]
theorem app_cps (a b : Str) : (a ++ b).cps.toList = a.cps.toList ++ b.cps.toList := Array.toList_append ..
theorem app_len (a b : Str) : (a ++ b).length = a.length + b.length := Array.size_append ..
/-! ### numbers -/
def numS (k : Nat) : Str := Str.ofString (toString (k : Int))
def numL (k : Nat) : List Nat := (numS k).cps.toList
theorem num_dig {k c : Nat} (h : c ∈ numL k) : 48 ≤ c ∧ c ≤ 57 := by
  unfold numL numS at h
  rw [W.KIN.signs_num] at h
  obtain ⟨ch, hch, rfl⟩ := List.mem_map.mp h
  have hd := Nat.isDigit_of_mem_toDigits (by decide) (by decide) hch
  unfold Char.isDigit at hd
  simp at hd
  exact ⟨hd.1, hd.2⟩
theorem num_ne (k : Nat) : numL k ≠ [] := by
  unfold numL numS
  rw [W.KIN.signs_num]
  simp
theorem num_two {k : Nat} (h : k < 100) : (numL k).length ≤ 2 := by
  have := PyProof.Rows.toString_length_le (v := (k : Int)) (by omega) (k := 2) (by decide) (by omega)
  unfold numL numS
  rw [Array.length_toList]
  exact this
theorem num_back {k : Nat} (h : k < 10 ^ 10) : intText? (numS k) = some (k : Int) := W.KIN.num_reads (by omega) (by omega)
theorem num_len {k : Nat} (h : k < 10 ^ 10) : (numS k).length ≤ 10 := PyProof.Rows.toString_length_le (v := (k : Int)) (by omega) (k := 10) (by decide) (by omega)
theorem num_inj {j k : Nat} (hj : j < 10 ^ 10) (hk : k < 10 ^ 10) (h : numL j = numL k) : j = k := by
  have e : numS j = numS k := str_ext h
  have h1 := num_back hj
  rw [e, num_back hk] at h1
  have := Option.some.inj h1
  omega
/-! ### words -/
def sgn : Kd → Nat
  | .dot => 46
  | .bang => 33
  | .to _ => 62
def goalL : Kd → List Nat
  | .to k => numL k
  | _ => []
def preL (ls : List Nat) : List Nat := if ls = [] then [45] else ls
def wordL (kn : Kn) : List Nat := preL kn.1 ++ sgn kn.2 :: goalL kn.2
def wordS (kn : Kn) : Str := ⟨(wordL kn).toArray⟩
def shapeS (kns : List Kn) : Str := Txt.join " " (kns.map wordS)
structure GoodK (n : Nat) (kn : Kn) : Prop where
  let_ : ∀ c ∈ kn.1, 97 ≤ c ∧ c ≤ 122
  asc : kn.1.Pairwise (· < ·)
  to_ : ∀ k, kn.2 = .to k → k < n
theorem pre_dig {n : Nat} {kn : Kn} (g : GoodK n kn) {c : Nat} (h : c ∈ preL kn.1) : c = 45 ∨ (97 ≤ c ∧ c ≤ 122) := by
  unfold preL at h
  split at h
  · left; simpa using h
  · exact .inr (g.let_ c h)
theorem goal_dig {kn : Kn} {c : Nat} (h : c ∈ goalL kn.2) : 48 ≤ c ∧ c ≤ 57 := by
  unfold goalL at h
  split at h
  · exact num_dig h
  · cases h
theorem sgn_3 (d : Kd) : sgn d = 46 ∨ sgn d = 33 ∨ sgn d = 62 := by
  cases d <;> simp [sgn]
theorem word_no {n : Nat} {kn : Kn} (g : GoodK n kn) : 32 ∉ (wordS kn).cps.toList := fun h => by
  have h : 32 ∈ wordL kn := h
  unfold wordL at h
  rcases List.mem_append.mp h with h | h
  · have := pre_dig g h; omega
  · rcases List.mem_cons.mp h with h | h
    · have := sgn_3 kn.2; omega
    · have := goal_dig h; omega
theorem shape_split {n : Nat} {kns : List Kn} (h0 : kns ≠ []) (g : ∀ kn ∈ kns, GoodK n kn) : Txt.split (shapeS kns) " " = kns.map wordS :=
  split_join (c := 32) (by simpa using h0) (fun p hp => by
    obtain ⟨kn, hk, rfl⟩ := List.mem_map.mp hp
    exact word_no (g kn hk))
theorem pre_ne (ls : List Nat) : preL ls ≠ [] := by
  unfold preL
  split
  · simp
  · assumption
theorem word_inj {n m : Nat} {a b : Kn} (ga : GoodK n a) (gb : GoodK m b) (hn : n ≤ 100) (hm : m ≤ 100) (h : wordS a = wordS b) : a = b := by
  have h : wordL a = wordL b := by
    have := congrArg (fun s : Str => s.cps.toList) h
    simpa [wordS] using this
  unfold wordL at h
  -- the sign is the first of its kind
  have key : ∀ {p q X Y : List Nat} {s t : Nat}, (∀ c ∈ p, c = 45 ∨ (97 ≤ c ∧ c ≤ 122)) → (∀ c ∈ q, c = 45 ∨ (97 ≤ c ∧ c ≤ 122)) → (s = 46 ∨ s = 33 ∨ s = 62) → (t = 46 ∨ t = 33 ∨ t = 62) → p ++ s :: X = q ++ t :: Y → p = q ∧ s = t ∧ X = Y := by
    intro p
    induction p with
    | nil =>
      intro q X Y s t _ hq hs ht e
      cases q with
      | nil => exact ⟨rfl, (List.cons.inj e).1, (List.cons.inj e).2⟩
      | cons c q =>
        have := hq c (by simp)
        have := (List.cons.inj e).1
        omega
    | cons a p ih =>
      intro q X Y s t hp hq hs ht e
      cases q with
      | nil =>
        have := hp a (by simp)
        have := (List.cons.inj e).1
        omega
      | cons c q =>
        obtain ⟨e1, e2⟩ := List.cons.inj e
        obtain ⟨e3, e4, e5⟩ := ih (fun c hc => hp c (List.mem_cons_of_mem _ hc)) (fun c hc => hq c (List.mem_cons_of_mem _ hc)) hs ht e2
        exact ⟨by rw [e1, e3], e4, e5⟩
  obtain ⟨h1, h2, h3⟩ := key (fun c hc => pre_dig ga hc) (fun c hc => pre_dig gb hc) (sgn_3 a.2) (sgn_3 b.2) h
  have e1 : a.1 = b.1 := by
    unfold preL at h1
    split at h1 <;> split at h1
    · next x y => rw [x, y]
    · next x y => exact absurd (gb.let_ 45 (by rw [← h1]; simp)) (by omega)
    · next x y => exact absurd (ga.let_ 45 (by rw [h1]; simp)) (by omega)
    · exact h1
  have e2 : a.2 = b.2 := by
    cases ha : a.2 with
    | dot => cases hb : b.2 <;> rw [ha, hb] at h2 <;> simp [sgn] at h2 <;> rfl
    | bang => cases hb : b.2 <;> rw [ha, hb] at h2 <;> simp [sgn] at h2 <;> rfl
    | to j => cases hb : b.2 with
      | dot => rw [ha, hb] at h2; simp [sgn] at h2
      | bang => rw [ha, hb] at h2; simp [sgn] at h2
      | to k =>
        rw [ha, hb] at h3
        have := ga.to_ j ha
        have := gb.to_ k hb
        rw [num_inj (by omega) (by omega) h3]
  exact Prod.ext e1 e2
theorem shape_inj {n m : Nat} {as bs : List Kn} (ha : as ≠ []) (hb : bs ≠ []) (ga : ∀ kn ∈ as, GoodK n kn) (gb : ∀ kn ∈ bs, GoodK m kn) (hn : n ≤ 100) (hm : m ≤ 100) (h : shapeS as = shapeS bs) : as = bs := by
  have h1 := shape_split ha ga
  rw [h, shape_split hb gb] at h1
  have key : ∀ (as bs : List Kn), (∀ kn ∈ as, GoodK n kn) → (∀ kn ∈ bs, GoodK m kn) → bs.map wordS = as.map wordS → as = bs := by
    intro as
    induction as with
    | nil => intro bs _ _ h; cases bs with
      | nil => rfl
      | cons b bs => simp at h
    | cons a as ih => intro bs g1 g2 h; cases bs with
      | nil => simp at h
      | cons b bs =>
        simp only [List.map_cons, List.cons.injEq] at h
        rw [word_inj (g1 a (by simp)) (g2 b (by simp)) hn hm h.1.symm, ih bs (fun k hk => g1 k (List.mem_cons_of_mem _ hk)) (fun k hk => g2 k (List.mem_cons_of_mem _ hk)) h.2]
  exact key as bs ga gb h1
end Z
end

section -- P8
set_option Elab.async false
set_option linter.all false
set_option maxRecDepth 100000
set_option maxHeartbeats 4000000
set_option autoImplicit false
namespace Z
open PySem PySem.Spec L2 K07
open M7 (Names Cells Kn Kd)
def sgnS (d : Kd) : Str := ⟨#[sgn d]⟩
def goalR : Kd → Rp
  | .to k => RI k
  | _ => Is .non
def knR (K : PySem.W.Frag) (kn : Kn) : Rp := LstR K [RS (ltr kn.1), RS (sgnS kn.2), goalR kn.2]
def knsR (K : PySem.W.Frag) (kns : List Kn) : Rp := LstR K (kns.map (knR K))
section
variable {J : Addr → Prop} {σ : St} {w w0 w1 : Wd} {ta tb t te : TE} {K : PySem.W.Frag} {cS cP : Addr} {mg : PySem.Str → Option Value} {D : Ends} {sa : TS} {g : TG} {i : Nat} {R : Rp}
theorem ev_slTo {z : Str} {n : Nat} (h : Ev J ta σ w (RS z)) (hb : Ev J tb σ w (RI n)) (hz : z.length ≤ sizeLine) : Ev J (tSl rSlS ta tNoPart (tPart tb)) σ w (RS ⟨(z.cps.toList.take n).toArray⟩) := fun w' e Q q =>
  h w' e _ fun v w1 e1 hv => hb w1 (e.trans e1) _ fun u w2 e2 hu => ⟨n, hu, z, hv, hz, q _ w2 (e1.trans e2) (by
    show V.str (cutS z none (some (n : Int))) = V.str _
    unfold cutS
    rw [HT.sIx_none, HT.sIx_nat]
    have : min n z.length - 0 = min n z.cps.toList.length := by rw [Array.length_toList]; rfl
    rw [this, List.drop_zero, ← List.take_eq_take_min])⟩
theorem ev_slFrom {z : Str} {n : Nat} (h : Ev J ta σ w (RS z)) (hb : Ev J tb σ w (RI n)) (hz : z.length ≤ sizeLine) : Ev J (tSl rSlS ta (tPart tb) tNoPart) σ w (RS ⟨(z.cps.toList.drop n).toArray⟩) := fun w' e Q q =>
  h w' e _ fun v w1 e1 hv => hb w1 (e.trans e1) _ fun u w2 e2 hu => ⟨n, hu, z, hv, hz, q _ w2 (e1.trans e2) (by
    show V.str (cutS z (some (n : Int)) none) = V.str _
    unfold cutS
    rw [HT.sIx_none, HT.sIx_nat]
    have hl : z.cps.toList.length = z.length := Array.length_toList
    have e2 : z.cps.toList.drop (min n z.length) = z.cps.toList.drop n := by
      by_cases hn : n ≤ z.length
      · rw [Nat.min_eq_left hn]
      · rw [Nat.min_eq_right (by omega), List.drop_of_length_le (by omega), List.drop_of_length_le (by omega)]
    rw [e2, List.take_of_length_le (by rw [List.length_drop]; omega)])⟩
theorem ev_ixS {z : Str} {n c : Nat} (h : Ev J ta σ w (RS z)) (hb : Ev J tb σ w (RI n)) (hz : z.length ≤ sizeLine) (hc : z.cps.toList[n]? = some c) : Ev J (tOp rIxS ta tb) σ w (RS ⟨#[c]⟩) :=
  ev_op h hb fun x y w' _ hx hy Q q => ⟨z, n, c, hx, hy, hz, atI_nat hc, q _ w' .rfl rfl⟩
theorem ev_isdigit {z : Str} {b : Bool} (h : Ev J ta σ w (RS z)) (hb : Txt.isdigit z = b) : Ev J (tM0 rIsDigit ta) σ w (RB b) := fun w' e Q q =>
  h w' e _ fun v w1 e1 hv => ⟨⟨z, hv⟩, z, hv, rfl, trivial, q _ w1 e1 (by rw [hb]; rfl)⟩
theorem ev_intS {z : Str} {n : Int} (h : Ev J ta σ w (RS z)) (hn : intText? z = some n) (hz : z.length ≤ 640) : Ev J (tCB rIntS (tCons ta tNil)) σ w (RI n) := fun w' e Q q =>
  h w' e _ fun v w1 e1 hv => ⟨z, n, by rw [hv], hn, hz, q _ w1 e1 rfl⟩
theorem ev_split {z s : Str} (h : Ev J ta σ w (RS z)) (hb : Ev J tb σ w (RS s)) (hs : (s.length == 0) = false) (hz : z.length + 2 ≤ sizeLine) : Ev J (tM1 rSplit ta tb) σ w (LstR K ((Txt.split z s).map RS)) := fun w' e Q q =>
  h w' e _ fun v w1 e1 hv => ⟨⟨z, hv⟩, hb w1 (e.trans e1) _ fun u w2 e2 hu => ⟨z, s, hv, by rw [hu], hs, hz, fun p hp => q (.ref p) (w2.new p _) ((e1.trans e2).trans (Le.new hp)) ⟨p, _, rfl, .inl (.inl new_at), by
    generalize Txt.split z s = l
    generalize (w2.new p (.lst (l.map V.str))).f = f
    induction l with
    | nil => trivial
    | cons a l ih => exact ⟨rfl, ih⟩⟩⟩⟩
theorem ev_eqD {d e : PyData} {b : Bool} (ha : Ev J ta σ w (Dat K d)) (hb : Ev J tb σ w (Dat K e)) (h1 : SeqAt.shaped d = true) (h2 : SeqAt.shaped e = true) (hq : PyData.eqv d e = b) : Ev J (tOp (rEqD K) ta tb) σ w (RB b) :=
  ev_op ha hb fun x y w' _ hx hy Q q => ⟨d, e, dp_mono w'.ok _ _ hx, dp_mono w'.ok _ _ hy, h1, h2, q _ w' .rfl (by rw [hq]; rfl)⟩
theorem ev_neD {d e : PyData} {b : Bool} (ha : Ev J ta σ w (Dat K d)) (hb : Ev J tb σ w (Dat K e)) (h1 : SeqAt.shaped d = true) (h2 : SeqAt.shaped e = true) (hq : (!PyData.eqv d e) = b) : Ev J (tOp (rNeD K) ta tb) σ w (RB b) :=
  ev_op ha hb fun x y w' _ hx hy Q q => ⟨d, e, dp_mono w'.ok _ _ hx, dp_mono w'.ok _ _ hy, h1, h2, q _ w' .rfl (by rw [hq]; rfl)⟩
theorem kept_one {n a : Nat} {f : Nat → Bool} {E : Nat → Rp} (ha : a < n) (hf : ∀ i, i < n → f i = decide (i = a)) : keptR n f E = [E a] := by
  have key : ∀ m, m ≤ n → keptR m f E = if a < m then [E a] else [] := by
    intro m
    induction m with
    | zero => intro _; rfl
    | succ m ih =>
      intro hm
      cases h : f m with
      | true =>
        have e : m = a := by have := hf m (by omega); rw [h] at this; simpa using this
        subst e
        rw [keptR_yes h, ih (by omega), if_neg (by omega), if_pos (by omega)]
        rfl
      | false =>
        have e : m ≠ a := by have := hf m (by omega); rw [h] at this; simpa using this
        rw [keptR_no h, ih (by omega)]
        by_cases q : a < m
        · rw [if_pos q, if_pos (by omega)]
        · rw [if_neg q, if_neg (by omega)]
  rw [key n (Nat.le_refl _), if_pos ha]
theorem isdig_num (k : Nat) : Txt.isdigit (numS k) = true := by
  unfold Txt.isdigit
  have h1 : (numS k).cps.toList ≠ [] := num_ne k
  have h2 : 0 < (numS k).length := by
    have : (numS k).length = (numS k).cps.toList.length := Array.length_toList.symm
    rw [this]
    exact List.length_pos_iff.mpr h1
  have h3 : (numS k).cps.all Unicode.isDigit = true := by
    rw [← Array.all_toList, List.all_eq_true]
    intro c hc
    have := num_dig (k := k) (c := c) hc
    have key : ∀ c, 48 ≤ c → c ≤ 57 → Unicode.isDigit c = true := by
      intro c h1 h2
      have : c ∈ List.range' 48 10 := List.mem_range'_1.mpr ⟨h1, by omega⟩
      have hd : ∀ x ∈ List.range' 48 10, Unicode.isDigit x = true := by decide +kernel
      exact hd c this
    exact key c this.1 this.2
  simp [h2, h3]
theorem word_len {n : Nat} {kn : Kn} (g : GoodK n kn) (hn : n ≤ 100) : (wordL kn).length ≤ 30 := by
  have h1 : kn.1.length ≤ 26 := by
    have hs : ∀ (l : List Nat) (a : Nat), l.Pairwise (· < ·) → (∀ c ∈ l, a ≤ c ∧ c ≤ 122) → l.length ≤ 123 - a := by
      intro l
      induction l with
      | nil => intro a _ _; simp
      | cons c l ih =>
        intro a hl hc
        rw [List.pairwise_cons] at hl
        have := ih (c + 1) hl.2 fun d hd => ⟨hl.1 d hd, (hc d (List.mem_cons_of_mem _ hd)).2⟩
        have := hc c (List.mem_cons_self ..)
        simp
        omega
    exact hs _ 97 g.asc g.let_
  have h2 : (preL kn.1).length ≤ 26 := by
    unfold preL
    split
    · simp
    · exact h1
  have h3 : (goalL kn.2).length ≤ 2 := by
    cases h : kn.2 with
    | to k => exact num_two (by have := g.to_ k h; omega)
    | dot => simp [goalL]
    | bang => simp [goalL]
  unfold wordL
  simp
  omega
theorem eq_str_l {a b : Str} (h : a.cps.toList ≠ b.cps.toList) : decide (V.str a = V.str b) = false := decide_eq_false fun e => h (by rw [V.str.inj e])
theorem sq_par2 {rest : TS} {j : Nat} {ts : TA} {Ra Rb : Rp} (h : EvA J ts σ w [Ra, Rb]) (k : ∀ x y w', Le J w w' → Ra.r w'.f x → Rb.r w'.f y → rest D ((σ.set i (some x)).set j (some y)) w'.h) : tSeq (tPar i j ts) rest D σ w.h := h w .rfl _ fun vs w' e a => by
  obtain ⟨x, vs, rfl, h1, a⟩ := a.cons_inv
  obtain ⟨y, vs, rfl, h2, a⟩ := a.cons_inv
  cases a.nil_inv
  exact ⟨x, y, rfl, k x y w' e h1 h2⟩
theorem sq_par3 {rest : TS} {j l : Nat} {ts : TA} {Ra Rb Rc : Rp} (h : EvA J ts σ w [Ra, Rb, Rc]) (k : ∀ x y z w', Le J w w' → Ra.r w'.f x → Rb.r w'.f y → Rc.r w'.f z → rest D (((σ.set i (some x)).set j (some y)).set l (some z)) w'.h) : tSeq (tPar3 i j l ts) rest D σ w.h := h w .rfl _ fun vs w' e a => by
  obtain ⟨x, vs, rfl, h1, a⟩ := a.cons_inv
  obtain ⟨y, vs, rfl, h2, a⟩ := a.cons_inv
  obtain ⟨z, vs, rfl, h3, a⟩ := a.cons_inv
  cases a.nil_inv
  exact ⟨x, y, z, rfl, k x y z w' e h1 h2 h3⟩
def isTo : Kd → Bool
  | .to _ => true
  | _ => false
def goalS (d : Kd) : Str := ⟨(goalL d).toArray⟩
def preS (ls : List Nat) : Str := ⟨(preL ls).toArray⟩
theorem gt_l : (">" : Str).cps.toList = [62] := by decide +kernel
theorem mi_l : ("-" : Str).cps.toList = [45] := by decide +kernel
theorem f1 (ls : List Nat) : decide (V.str (preS ls) = V.str "") = false := eq_str_l (by show preL ls ≠ []; exact pre_ne _)
theorem f2 (d : Kd) : decide (V.str (sgnS d) = V.str ">") = isTo d := by
  cases d with
  | dot => exact eq_str_l (by rw [gt_l]; decide)
  | bang => exact eq_str_l (by rw [gt_l]; decide)
  | to k => exact decide_eq_true (congrArg V.str (str_ext gt_l.symm))
theorem goal_to (k : Nat) : goalS (.to k) = numS k := str_ext rfl
theorem f3 (d : Kd) : Txt.isdigit (goalS d) = isTo d := by
  cases d with
  | dot => rfl
  | bang => rfl
  | to k => rw [goal_to]; exact isdig_num k
theorem f4 (d : Kd) : decide (V.str (goalS d) = V.str "") = !isTo d := by
  cases d with
  | dot => exact decide_eq_true rfl
  | bang => exact decide_eq_true rfl
  | to k => exact eq_str_l (by show numL k ≠ []; exact num_ne k)
theorem f5 {n : Nat} {kn : Kn} (g : GoodK n kn) (hn : n ≤ 100) : (goalS kn.2).length ≤ 2 := by
  have e : (goalS kn.2).length = (goalL kn.2).length := by show (goalL kn.2).toArray.size = _; simp
  rw [e]
  cases h : kn.2 with
  | to k => exact num_two (by have := g.to_ k h; omega)
  | dot => simp [goalL]
  | bang => simp [goalL]
theorem f6 {n : Nat} {kn : Kn} (g : GoodK n kn) : decide (V.str (preS kn.1) = V.str "-") = decide (kn.1 = []) := by
  by_cases h : kn.1 = []
  · rw [decide_eq_true h]
    exact decide_eq_true (congrArg V.str (str_ext (by rw [mi_l]; show preL kn.1 = _; unfold preL; rw [if_pos h])))
  · rw [decide_eq_false h]
    refine eq_str_l ?_
    rw [mi_l]
    show preL kn.1 ≠ _
    unfold preL
    rw [if_neg h]
    intro e
    have := g.let_ 45 (by rw [e]; simp)
    omega
theorem pu_knots_in {n : Nat} {kns : List Kn} (h0 : kns ≠ []) (hl : kns.length ≤ 100) (hn : n ≤ 100) (gk : ∀ kn ∈ kns, GoodK n kn) : Pu0 (p_knots_in K cS cP) [RS (shapeS kns)] (knsR K kns) := pu_1 fun v w h Q q => by
  cases h
  have hwl : ∀ kn ∈ kns, (wordS kn).length ≤ 30 := fun kn hk => word_len (gk kn hk) hn
  have hz : (shapeS kns).length + 2 ≤ sizeLine := by
    have h1 := StrLaws.join_length_le " " (kns.map wordS)
    rw [← StrLaws.glued_eq_join] at h1
    have h2 : ((kns.map wordS).map (·.length)).sum ≤ (kns.map wordS).length * 30 := StrLaws.sumLen_le _ fun y hy => by
      obtain ⟨kn, hk, rfl⟩ := List.mem_map.mp hy
      exact hwl kn hk
    have h3 : (shapeS kns).length ≤ _ := h1
    have h4 : (" " : Str).length = 1 := rfl
    rw [h4, List.length_map] at h3
    rw [List.length_map] at h2
    exact Nat.le_trans (show (shapeS kns).length + 2 ≤ 10000 by omega) (by decide)
  refine sq_asgN (J := J0) (en_lst ea_nil (by simp)) fun l o w1 e1 hl0 own1 ⟨xs, ho, hxs⟩ => ?_
  cases hxs.nil_inv
  subst ho
  have hsrc := src_list (ev_split (K := K) (J := J0) (σ := [some (.str (shapeS kns)), some (.ref l), none, none, none, none, none, none]) (w := w1) (ta := tVar 0) (tb := tC (.str " ")) (ev_is rfl) ev_cv rfl hz)
  rw [shape_split h0 gk] at hsrc
  refine st_for (J := J0) hsrc (fun i σ1 w2 => Le J0 w w2 ∧ ∃ xs x2 x3 x4 x5 x6 x7, σ1 = [some (.str (shapeS kns)), some (.ref l), x2, x3, x4, x5, x6, x7] ∧ Own w2 l (.lst xs) ∧ AllR w2.f ((kns.take i).map (knR K)) xs)
    (fun w2 e2 => ⟨e1.trans e2, [], none, none, none, none, none, none, rfl, own1.le0 e2, trivial⟩) ?_ ?_
  · rintro i σ1 w2 hi ⟨l2, xs, x2, x3, x4, x5, x6, x7, rfl, own2, all2⟩ z w3 e3 hz3 Kk hK
    have hi' : i < kns.length := by simpa using hi
    rw [List.map_map, getD_map hi'] at hz3
    cases hz3
    have gi := gk _ (List.getElem_mem hi')
    have hwi := hwl _ (List.getElem_mem hi')
    show tSeq _ _ _ [some (.str (shapeS kns)), some (.ref l), some (.str (wordS kns[i])), x3, x4, x5, x6, x7] w3.h
    generalize hkn : kns[i] = kn at gi hwi
    have hL : (wordS kn).cps.toList = preL kn.1 ++ sgn kn.2 :: goalL kn.2 := rfl
    have hsz : (wordS kn).cps.size = (preL kn.1 ++ sgn kn.2 :: goalL kn.2).length := by rw [← hL, Array.length_toList]
    have hlen : (wordS kn).length ≤ sizeLine := Nat.le_trans hwi (by decide)
    have hat : (wordS kn).cps.toList[(preL kn.1).length]? = some (sgn kn.2) := by rw [hL]; simp
    -- cut
    have hcut : EvN J0 (tLc (iEnumS (tCons (tVar 2) tNil)) (gTup K 2 (gCons (gName 7) (gCons (gName 5) gNil))) (tTest (tOp rInS (tVar 5) (tC (.str ".!>")))) (tVar 7) [7, 5]) [some (.str (shapeS kns)), some (.ref l), some (.str (wordS kn)), x3, x4, x5, x6, x7] w3
        fun f o => ∃ xs, o = .lst xs ∧ AllR f (keptR (wordS kn).cps.size (fun i => decide (((wordS kn).cps.toList.getD i 0) ∈ [46, 33, 62])) (fun i => RI i)) xs := by
      refine ev_lc2 (A := fun i => RI i) (B := fun i => RS ⟨#[(wordS kn).cps.toList.getD i 0]⟩) _ _ (src_enumS (K := K) (ev_is (v := .str (wordS kn)) rfl)) (fun k f v hk hv => ?_) (Nat.le_trans hwi (by decide)) (fun _ _ => rfl) (fun k w4 hk e4 x y hx hy => ?_) fun _ _ => id
      · obtain ⟨c, hc, hv⟩ := hv
        have : (wordS kn).cps.toList.getD k 0 = c := by
          rw [List.getD_eq_getElem?_getD, Array.getElem?_toList, hc]
          rfl
        rw [this]
        exact hv
      · cases hx
        cases hy
        refine ⟨et_test (ev_inS (ev_is rfl) ev_cv ?_), fun _ => ev_is rfl⟩
        have : (".!>" : Str).cps.toList = [46, 33, 62] := by decide +kernel
        rw [this]
    have hkept : keptR (wordS kn).cps.size (fun i => decide (((wordS kn).cps.toList.getD i 0) ∈ [46, 33, 62])) (fun i => RI i) = [RI (preL kn.1).length] := by
      refine kept_one (a := (preL kn.1).length) (by rw [hsz]; simp) fun j hj => ?_
      rw [hL]
      rw [hsz] at hj
      by_cases hjp : j < (preL kn.1).length
      · have hm : (preL kn.1)[j] ∈ preL kn.1 := List.getElem_mem hjp
        have := pre_dig gi hm
        have e : (preL kn.1 ++ sgn kn.2 :: goalL kn.2).getD j 0 = (preL kn.1)[j] := by simp [List.getD_eq_getElem?_getD, List.getElem?_append_left hjp, hjp]
        rw [e]
        have h1 : ¬ (preL kn.1)[j] ∈ [46, 33, 62] := by simp; omega
        have h2 : ¬ j = (preL kn.1).length := by omega
        rw [decide_eq_false h1, decide_eq_false h2]
      · by_cases hje : j = (preL kn.1).length
        · subst hje
          have e : (preL kn.1 ++ sgn kn.2 :: goalL kn.2).getD (preL kn.1).length 0 = sgn kn.2 := by simp [List.getD_eq_getElem?_getD]
          rw [e]
          have := sgn_3 kn.2
          simp
          omega
        · obtain ⟨d, hd⟩ : ∃ d, j = (preL kn.1).length + (d + 1) := ⟨j - (preL kn.1).length - 1, by omega⟩
          subst hd
          have hdl : d < (goalL kn.2).length := by simp at hj; omega
          have e : (preL kn.1 ++ sgn kn.2 :: goalL kn.2).getD ((preL kn.1).length + (d + 1)) 0 = (goalL kn.2)[d] := by
            rw [List.getD_eq_getElem?_getD, List.getElem?_append_right (by omega)]
            simp [hdl]
          rw [e]
          have hm : (goalL kn.2)[d] ∈ goalL kn.2 := List.getElem_mem hdl
          have := goal_dig hm
          simp
          omega
    rw [hkept] at hcut
    refine sq_asg (J := J0) (R := Dat K (.list [.int (preL kn.1).length])) ((en_lstR hcut).imp fun _ _ _ r => lst_ints (l := [((preL kn.1).length : Int)]).mp r) fun vc w4 e4 hc => ?_
    have hv3 : ∀ {x4 x5 x6 : Option V} {w5 : Wd}, Le J0 w4 w5 → Ev J0 (tVar 3) [some (.str (shapeS kns)), some (.ref l), some (.str (wordS kn)), some vc, x4, x5, x6, x7] w5 (Dat K (.list [.int (preL kn.1).length])) := fun e => ev_var (v := vc) rfl (Rp.mono _ e.ef hc)
    have hix : ∀ {x4 x5 x6 : Option V} {w5 : Wd}, Le J0 w4 w5 → Ev J0 (tOp (rIxL K) (tVar 3) (tC (.int 0))) [some (.str (shapeS kns)), some (.ref l), some (.str (wordS kn)), some vc, x4, x5, x6, x7] w5 (RI (preL kn.1).length) := fun e =>
      ev_ixL (n := 0) (Rs := [RI (preL kn.1).length]) ((hv3 e).imp fun _ _ _ r => lst_ints (l := [((preL kn.1).length : Int)]).mpr r) ev_cv rfl
    refine st_skip (J := J0) (et_test (ev_eqD (hv3 .rfl) (ev_lstD (ds := []) (ev_lst ea_nil (by simp))) rfl rfl rfl)) fun w5 e5 => ?_
    refine sq_par3 (J := J0) (Ra := RS (preS kn.1)) (Rb := RS (sgnS kn.2)) (Rc := RS (goalS kn.2)) (ea_cons ((ev_slTo (ev_is rfl) (hix e5) hlen).of ?_) (ea_cons (ev_ixS (ev_is rfl) (hix e5) hlen hat) (ea_cons ((ev_slFrom (n := (preL kn.1).length + 1) (ev_is rfl) (ev_add (hix e5) ev_cv) hlen).of ?_) ea_nil))) fun a1 a2 a3 w6 e6 h1 h2 h3 => ?_
    · rw [hL, List.take_left]; rfl
    · rw [hL, List.drop_append, List.drop_of_length_le (by omega)]
      have : (preL kn.1).length + 1 - (preL kn.1).length = 1 := by omega
      rw [this]
      rfl
    cases h1
    cases h2
    cases h3
    show tSeq _ _ _ [some (.str (shapeS kns)), some (.ref l), some (.str (wordS kn)), some vc, some (.str (preS kn.1)), some (.str (sgnS kn.2)), some (.str (goalS kn.2)), x7] w6.h
    have h5 := f5 gi hn
    refine st_skip (J := J0) (et_or (a := false) (b := false) (et_test (ev_eq (ev_is rfl) ev_cv rfl (f1 kn.1))) (fun _ => et_or (a := false) (b := false) (et_test (ev_ne (a := .bl (isTo kn.2)) (b := .bl (isTo kn.2)) (ev_eq (ev_is rfl) ev_cv rfl (f2 kn.2)) (ev_isdigit (ev_is rfl) (f3 kn.2)) rfl (by simp)))
        (fun _ => et_or (a := false) (b := false) (et_and (a := !isTo kn.2) (b := isTo kn.2) (et_test (ev_ne (ev_is rfl) ev_cv rfl (by rw [f2]))) (fun h => et_test (ev_ne (ev_is rfl) ev_cv rfl (by rw [f4]; simp))) (by cases isTo kn.2 <;> rfl)) (fun _ => et_test (ev_gt (ev_lenS (ev_is rfl) (Nat.le_trans h5 (by decide))) ev_cv (by simp; omega))) rfl) rfl) rfl) fun w7 e7 => ?_
    refine st_app (J := J0) (R := knR K kn) ((((((own2.le0 e3).le0 e4).le0 e5).le0 e6).le0 e7)) id rfl (ev_lst (ea_cons ?_ (ea_cons (ev_is rfl) (ea_cons ?_ ea_nil))) (by simp)) (by have := all2.len; simp at this; omega) fun u8 w8 w9 e8 hu8 m9 => ?_
    · refine ev_if (et_test (ev_eq (ev_is rfl) ev_cv rfl (f6 gi))) (fun h => ?_) (fun h => ?_)
      · have : kn.1 = [] := of_decide_eq_true h.symm
        rw [this]
        exact ev_cv
      · have : ¬ kn.1 = [] := of_decide_eq_false h.symm
        have e : preS kn.1 = ltr kn.1 := by unfold preS ltr preL; rw [if_neg this]
        rw [e]
        exact ev_is rfl
    · refine ev_if (et_test (ev_eq (ev_is rfl) ev_cv rfl (f2 kn.2))) (fun h => ?_) (fun h => ?_)
      · cases hd : kn.2 with
        | dot => rw [hd] at h; cases h
        | bang => rw [hd] at h; cases h
        | to k => 
          have hk := gi.to_ k hd
          rw [goal_to]
          exact ev_intS (ev_is rfl) (num_back (by omega)) (by have := num_len (k := k) (by omega); omega)
      · cases hd : kn.2 with
        | dot => exact ev_cv
        | bang => exact ev_cv
        | to k => rw [hd] at h; cases h
    have o8 := (((((own2.le0 e3).le0 e4).le0 e5).le0 e6).le0 e7).le0 e8
    have l8 := ((((((l2.trans e3).trans e4).trans e5).trans e6).trans e7).trans e8)
    have ef28 : Exf w2.f w9.f := fun p o h => m9.ef p o (((((((e3.trans e4).trans e5).trans e6).trans e7).trans e8)).ef p o h)
    refine hK _ w9 ef28 ⟨l8.mt m9 hl0 o8.f, _, _, _, _, _, _, _, rfl, m9.own o8.f, ?_⟩
    rw [List.take_succ_eq_append_getElem hi', List.map_append, hkn]
    exact (all2.mono ef28).snoc ((knR K kn).mono m9.ef hu8)
  · rintro σ1 w2 ⟨l2, xs, x2, x3, x4, x5, x6, x7, rfl, own2, all2⟩
    rw [List.length_map, List.length_map, List.take_length] at all2
    exact ⟨.ref l, rfl, q _ (w2.pub l _ own2.h) (l2.pub hl0 own2.h) (pub_lst own2 all2)⟩
end
end Z
end

section -- P9
set_option Elab.async false
set_option linter.all false
set_option maxRecDepth 100000
set_option maxHeartbeats 4000000
set_option autoImplicit false
namespace Z
open PySem PySem.Spec L2 K07
open M7 (Names Cells Kn Kd koGo koAll goalAt)
/-! ### sorted letters -/
theorem lt_chr (a b : Nat) : ltCps (chr a).cps.toList (chr b).cps.toList = decide (a < b) := by
  show ltCps [a] [b] = _
  simp [ltCps]
theorem rising_chr : ∀ (zs : List Nat) (p : Nat), PyProof.Rows.risingS (chr p) (zs.map chr) = true → (∀ z ∈ zs, p ≤ z) ∧ zs.Pairwise (· ≤ ·)
  | [], _, _ => ⟨by simp, .nil⟩
  | z :: zs, p, h => by
    have h : (!ltCps (chr z).cps.toList (chr p).cps.toList && PyProof.Rows.risingS (chr z) (zs.map chr)) = true := h
    rw [Bool.and_eq_true, lt_chr] at h
    have h1 : p ≤ z := by have := h.1; simp at this; exact this
    obtain ⟨h2, h3⟩ := rising_chr zs z h.2
    refine ⟨fun y hy => ?_, .cons (fun y hy => h2 y hy) h3⟩
    rcases List.mem_cons.mp hy with rfl | hy
    · exact h1
    · exact Nat.le_trans h1 (h2 y hy)
theorem sortedS_chr (zs : List Nat) (h : PyProof.Rows.sortedS (zs.map chr) = true) : zs.Pairwise (· ≤ ·) := by
  cases zs with
  | nil => exact .nil
  | cons z zs => 
    obtain ⟨h1, h2⟩ := rising_chr zs z h
    exact .cons h1 h2
theorem perm_chr {ys : List Str} {ls : List Nat} (h : ys.Perm (ls.map chr)) : ∃ zs : List Nat, ys = zs.map chr ∧ zs.Perm ls := by
  have hall : ∀ y ∈ ys, ∃ z, y = chr z := fun y hy => by
    obtain ⟨z, _, e⟩ := List.mem_map.mp (h.mem_iff.mp hy)
    exact ⟨z, e.symm⟩
  have key : ∀ ys : List Str, (∀ y ∈ ys, ∃ z, y = chr z) → ∃ zs : List Nat, ys = zs.map chr := by
    intro ys
    induction ys with
    | nil => intro _; exact ⟨[], rfl⟩
    | cons y ys ih =>
      intro hy
      obtain ⟨z, rfl⟩ := hy y (by simp)
      obtain ⟨zs, rfl⟩ := ih fun x hx => hy x (List.mem_cons_of_mem _ hx)
      exact ⟨z :: zs, rfl⟩
  obtain ⟨zs, rfl⟩ := key ys hall
  refine ⟨zs, rfl, ?_⟩
  have h2 := h.map fun s : Str => s.cps.toList.headD 0
  rw [List.map_map, List.map_map] at h2
  have e : ∀ l : List Nat, l.map ((fun s : Str => s.cps.toList.headD 0) ∘ chr) = l := fun l => by
    have : ((fun s : Str => s.cps.toList.headD 0) ∘ chr) = id := rfl
    rw [this, List.map_id]
  rwa [e, e] at h2
theorem sorted_uniq {ys : List Str} {ls zs : List Nat} (h : ys.Perm (ls.map chr)) (hs : PyProof.Rows.sortedS ys = true) (hz : zs.Pairwise (· < ·)) (hp : zs.Perm ls) : ys = zs.map chr := by
  obtain ⟨us, rfl, hu⟩ := perm_chr h
  have h1 := sortedS_chr us hs
  have h2 : us = zs := List.Perm.eq_of_pairwise (le := (· ≤ ·)) (fun a b _ _ h1 h2 => Nat.le_antisymm h1 h2) h1 (hz.imp fun h => Nat.le_of_lt h) (hu.trans hp.symm)
  rw [h2]
section
variable {J : Addr → Prop} {σ : St} {w w0 w1 : Wd} {ta tb t te : TE} {K : PySem.W.Frag} {cS cP : Addr} {mg : PySem.Str → Option Value} {D : Ends} {sa : TS} {g : TG} {i : Nat} {R : Rp}
theorem allR_strs {f : Hp} : ∀ {l : List Str} {xs : List V}, AllR f (l.map RS) xs ↔ xs = l.map V.str
  | [], xs => ⟨fun h => h.nil_inv, fun h => by subst h; trivial⟩
  | a :: l, xs => ⟨fun h => by
      obtain ⟨v, ws, rfl, h1, h2⟩ := h.cons_inv
      cases h1
      rw [allR_strs.mp h2]
      rfl, fun h => by subst h; exact ⟨rfl, allR_strs.mpr rfl⟩⟩
theorem lst_strs {f : Hp} {l : List Str} {v : V} : (LstR K (l.map RS)).r f v ↔ (Dat K (.list (l.map PyData.str))).r f v := by
  constructor
  · rintro ⟨a, xs, rfl, h1, h2⟩
    refine Dp.lst h1 ?_
    rw [allR_strs.mp h2]
    clear h2
    induction l with
    | nil => exact .nil
    | cons a l ih => exact .cons (.str a) ih
  · intro h
    cases h with
    | lst h1 h2 => exact ⟨_, _, rfl, h1, allR_strs.mpr (dps_strs h2)⟩
theorem ev_sortedDO {d : Addr} {kvs : List (Key × V)} {ls zs : List Nat} (hl : Own w d (.dK kvs)) (hj : ¬ J d) (hv : σ[i]? = some (some (.ref d))) (hk : kvs.map (·.1) = (ls.map chr).map Sum.inr) (hlen : ls.length < 64) (hz : zs.Pairwise (· < ·)) (hp : zs.Perm ls) :
    Ev J (tCB rSortedD (tCons (tVar i) tNil)) σ w (LstR K ((zs.map chr).map RS)) := fun w' e Q q =>
  ⟨.ref d, hv, d, kvs, ls.map chr, rfl, .inl (hl.le e hj).h, hk, by rw [List.length_map]; exact hlen, fun ys p hy hs hp' => by
    have := sorted_uniq hy hs hz hp
    subst this
    exact q (.ref p) (w'.new p _) (Le.new hp') ⟨p, _, rfl, .inl (.inl new_at), allR_strs.mpr rfl⟩⟩
theorem ev_sortedL {ls zs : List Nat} (ha : Ev J ta σ w (LstR K ((ls.map chr).map RS))) (hlen : ls.length < 64) (hz : zs.Pairwise (· < ·)) (hp : zs.Perm ls) : Ev J (tCB (rSortedS K) (tCons ta tNil)) σ w (LstR K ((zs.map chr).map RS)) := fun w' e Q q =>
  ha w' e _ fun v w1 e1 ⟨a, xs, h1, h2, h3⟩ => by
    subst h1
    have := allR_strs.mp h3
    subst this
    exact ⟨a, ls.map chr, rfl, sqL_h w1 h2, by rw [List.length_map]; exact hlen, fun ys p hy hs hp' => by
      have := sorted_uniq hy hs hz hp
      subst this
      exact q (.ref p) (w1.new p _) (e1.trans (Le.new hp')) ⟨p, _, rfl, .inl (.inl new_at), allR_strs.mpr rfl⟩⟩
theorem signs_ltr (ls : List Nat) : signs (ltr ls) = ls.map chr := rfl
theorem ev_sortedT {ls zs : List Nat} (ha : Ev J ta σ w (RS (ltr ls))) (hlen : ls.length < 64) (hz : zs.Pairwise (· < ·)) (hp : zs.Perm ls) : Ev J (tCB rSortedSt (tCons ta tNil)) σ w (LstR K ((zs.map chr).map RS)) := fun w' e Q q =>
  ha w' e _ fun v w1 e1 h1 => by
    cases h1
    exact ⟨ltr ls, rfl, by show ls.toArray.size < 64; simpa using hlen, fun ys p hy hs hp' => by
      rw [signs_ltr] at hy
      have := sorted_uniq hy hs hz hp
      subst this
      exact q (.ref p) (w1.new p _) (e1.trans (Le.new hp')) ⟨p, _, rfl, .inl (.inl new_at), allR_strs.mpr rfl⟩⟩
theorem join_chr (ls : List Nat) : PySem.Txt.join "" (ls.map chr) = ltr ls := by
  have e : PySem.Txt.join "" (ls.map chr) = Str.join "" (ls.map chr) := StrLaws.glued_eq_join _ _
  rw [e]
  refine str_ext ?_
  show _ = ls
  clear e
  induction ls with
  | nil => rfl
  | cons a ls ih =>
    cases ls with
    | nil => rfl
    | cons b ls =>
      show ((chr a ++ "" ++ Str.join "" ((b :: ls).map chr)).cps).toList = _
      rw [app_cps, app_cps, ih]
      rfl
theorem ev_joinR {a : Str} {ys : List Str} (ha : Ev J ta σ w (RS a)) (hb : Ev J tb σ w (LstR K (ys.map RS))) (hz : (ys.map (·.length)).sum + ys.length * a.length ≤ 16777216) : Ev J (tM1 (rJoin K) ta tb) σ w (RS (PySem.Txt.join a ys)) :=
  ev_join ha (hb.imp fun _ _ _ => lst_strs.mp) hz
theorem chr_sum : ∀ ls : List Nat, ((ls.map chr).map (·.length)).sum = ls.length
  | [] => rfl
  | a :: ls => by rw [List.map_cons, List.map_cons, List.sum_cons, chr_sum ls, List.length_cons]; show 1 + _ = _; omega
/-! ### knots -/
def dn (kns : List Kn) (n : Nat) : List (Nat × Nat) := (List.range n).flatMap fun j => (kns.getD j ([], .dot)).1.map fun c => (c, j)
theorem dn_succ (kns : List Kn) (n : Nat) : dn kns (n + 1) = dn kns n ++ (kns.getD n ([], .dot)).1.map fun c => (c, n) := by
  unfold dn
  rw [List.range_succ, List.flatMap_append]
  simp
theorem dn_lt (kns : List Kn) (n : Nat) {c j : Nat} (h : (c, j) ∈ dn kns n) : j < n ∧ c ∈ (kns.getD j ([], .dot)).1 := by
  unfold dn at h
  obtain ⟨i, hi, h⟩ := List.mem_flatMap.mp h
  obtain ⟨d, hd, e⟩ := List.mem_map.mp h
  cases e
  exact ⟨List.mem_range.mp hi, hd⟩
structure KnF (kns : List Kn) (prs : List (Nat × Nat)) : Prop where
  good : ∀ kn ∈ kns, GoodK kns.length kn
  few : kns.length ≤ 100
  ne : kns ≠ []
  asc : prs.Pairwise fun a b => a.1 < b.1
  one : 1 ≤ prs.length
  four : prs.length ≤ 4
  mem : ∀ c i, (c, i) ∈ prs ↔ i < kns.length ∧ c ∈ (kns.getD i ([], .dot)).1
  ord : ∃ N, N ≤ 1000 ∧ koAll kns N (prs.map (·.2)) [] = some (List.range kns.length)
  need : ∀ i, i < kns.length → (kns.getD i ([], .dot)).1 = [] → (∃ k, (kns.getD i ([], .dot)).2 = .to k) → 2 ≤ kns.countP fun kn => decide (kn.2 = .to i)
  dots : kns.countP (fun kn => decide (kn.2 = .dot)) ≤ 1
variable {kns : List Kn} {prs : List (Nat × Nat)}
theorem KnF.dn_nodup (F : KnF kns prs) : ∀ n, n ≤ kns.length → (dn kns n).Nodup
  | 0, _ => .nil
  | n + 1, h => by
    rw [dn_succ, List.nodup_append]
    have hn : n < kns.length := by omega
    have g := F.good kns[n] (List.getElem_mem hn)
    have e : kns.getD n ([], .dot) = kns[n] := by simp [List.getD_eq_getElem?_getD, hn]
    refine ⟨F.dn_nodup n (by omega), ?_, fun a ha b hb q => ?_⟩
    · rw [e]
      exact nodup_map_inj (fun x y h => (Prod.mk.inj h).1) (g.asc.imp fun h e => by omega)
    · obtain ⟨c, _, rfl⟩ := List.mem_map.mp hb
      subst q
      have := (dn_lt kns n ha).1
      omega
theorem KnF.perm (F : KnF kns prs) : (dn kns kns.length).Perm prs := by
  have hp : prs.Nodup := F.asc.imp fun h e => by rw [e] at h; omega
  refine (List.perm_ext_iff_of_nodup (F.dn_nodup _ (Nat.le_refl _)) hp).mpr fun q => ?_
  obtain ⟨c, i⟩ := q
  rw [F.mem]
  constructor
  · intro h; exact dn_lt kns _ h
  · rintro ⟨h1, h2⟩
    unfold dn
    exact List.mem_flatMap.mpr ⟨i, List.mem_range.mpr h1, List.mem_map.mpr ⟨c, h2, rfl⟩⟩
theorem KnF.let_nodup (F : KnF kns prs) : ((dn kns kns.length).map (·.1)).Nodup := by
  have h := F.perm.map (·.1)
  refine (h.nodup_iff).mpr ?_
  rw [List.nodup_iff_pairwise_ne, List.pairwise_map]
  exact F.asc.imp fun h e => by omega
/-- a dict of letters -/
def dLet (l : List (Nat × Nat)) : List (Key × V) := l.map fun q => (Sum.inr (chr q.1), V.int q.2)
theorem put_dLet {l : List (Nat × Nat)} {c i : Nat} (h : c ∉ l.map (·.1)) : putK (dLet l) (.inr (chr c)) (.int i) = dLet (l ++ [(c, i)]) := by
  have hn : valV (dLet l) (.inr (chr c)) = none := by
    unfold dLet
    induction l with
    | nil => rfl
    | cons q l ih =>
      rw [List.map_cons] at h ⊢
      rw [valV_neg (fun e => h (by rw [← chr_inj (Sum.inr.inj e)]; simp)), ih fun hm => h (List.mem_cons_of_mem _ hm)]
  rw [putK_new _ hn]
  simp [dLet]
theorem val_dLet {l : List (Nat × Nat)} {c i : Nat} (hn : (l.map (·.1)).Nodup) (h : (c, i) ∈ l) : valV (dLet l) (.inr (chr c)) = some (.int i) := by
  unfold dLet
  induction l with
  | nil => cases h
  | cons q l ih =>
    rw [List.map_cons] at hn ⊢
    rw [List.nodup_cons] at hn
    rcases List.mem_cons.mp h with h | h
    · subst h
      rw [valV_pos rfl]
    · have hne : q.1 ≠ c := fun e => hn.1 (by rw [e]; exact List.mem_map.mpr ⟨_, h, rfl⟩)
      rw [valV_neg (fun e => hne (chr_inj (Sum.inr.inj e))), ih hn.2 h]
abbrev oz (od : List Nat) : List Int := od.map fun (i : Nat) => (i : Int)
theorem mem_oz {od : List Nat} {i : Nat} : (i : Int) ∈ oz od ↔ i ∈ od := by
  constructor
  · intro h
    obtain ⟨j, hj, e⟩ := List.mem_map.mp h
    have : j = i := by omega
    exact this ▸ hj
  · intro h
    exact List.mem_map.mpr ⟨i, h, rfl⟩
theorem koGo_succ {n : Nat} {od r : List Nat} {p : Nat} (h : koGo kns n od p = some r) : ∃ m, n = m + 1 := by
  cases n with
  | zero => simp [koGo] at h
  | succ m => exact ⟨m, rfl⟩
end
end Z
end

section -- P10
set_option Elab.async false
set_option linter.all false
set_option maxRecDepth 100000
set_option maxHeartbeats 4000000
set_option autoImplicit false
namespace Z
open PySem PySem.Spec L2 K07
open M7 (Names Cells Kn Kd koGo koAll goalAt)
section
variable {J : Addr → Prop} {σ : St} {w w0 w1 : Wd} {ta tb t te : TE} {K : PySem.W.Frag} {cS cP : Addr} {mg : PySem.Str → Option Value} {D : Ends} {sa : TS} {g : TG} {i : Nat} {R : Rp} {kns : List Kn} {prs : List (Nat × Nat)}
/-- a sequence's turn: what is carried over it is told by Mid -/
theorem sq_for {rest : TS} {wi : TI} {n : Nat} {P : Nat → Rp} (hs : Src J wi σ w n P) (inv : Nat → St → Wd → Prop) (h0 : ∀ w1, Le J w w1 → inv 0 σ w1)
    (step : ∀ i σ1 w1, i < n → inv i σ1 w1 → ∀ x w2, Le J w1 w2 → (P i).r w2.f x → ∀ Kk bk : St → Hp → Prop, (∀ σ' w', Exf w1.f w'.f → inv (i + 1) σ' w' → Kk σ' w'.h) → g x σ1 w2.h fun σ2 H2 => sa { nx := Kk, rt := D.rt, ct := Kk, bk := bk } σ2 H2)
    (done : ∀ σ1 w1, inv n σ1 w1 → rest D σ1 w1.h) : tSeq (tFor wi g sa) rest D σ w.h :=
  st_for (D := { D with nx := rest D }) hs inv h0 (fun i σ1 w1 hi hinv x w2 e2 hx Kk hK => step i σ1 w1 hi hinv x w2 e2 hx Kk (rest D) hK) done
theorem sq_while {rest : TS} {tt : TT} {m0 : Nat} (inv : Nat → St → Wd → Prop) (h0 : inv m0 σ w)
    (step : ∀ m σ1 w1, inv m σ1 w1 → ∃ P : Bool → Prop, EvT J tt σ1 w1 P ∧ (P true → ∀ w2, Le J w1 w2 → ∀ Kk : St → Hp → Prop, (∀ m' σ' w', m' < m → inv m' σ' w' → Kk σ' w'.h) → sa { nx := Kk, rt := D.rt, ct := Kk, bk := rest D } σ1 w2.h) ∧ (P false → ∀ w2, Le J w1 w2 → rest D σ1 w2.h)) : tSeq (tWhile tt sa) rest D σ w.h :=
  st_while (D := { D with nx := rest D }) inv h0 step
theorem pu_knot_order (F : KnF kns prs) : Pu0 (p_knot_order K cS cP) [knsR K kns] (LstR K ((oz (List.range kns.length)).map RI)) := pu_1 fun v w h Q q => by
  have hfew := F.few
  have h4 := F.four
  obtain ⟨N, hN, hord⟩ := F.ord
  have hall := F.let_nodup
  have hfull : (dn kns kns.length).length ≤ 4 := by rw [F.perm.length_eq]; exact h4
  refine st_par3 (en_dic (J := J0) w .rfl _ fun dp o w1 e1 hdp own1 ho => en_lst (J := J0) ea_nil (by simp) w1 .rfl _ fun l o' w2 e2 hl own2 ⟨xs, ho', hxs⟩ => en_dic (J := J0) w2 .rfl _ fun ds o'' w3 e3 hds own3 ho'' => ?_)
  subst ho
  cases hxs.nil_inv
  subst ho'
  subst ho''
  have hl0 : w.h l = none := e1.fresh hl
  have hds0 : w.h ds = none := (e1.trans e2).fresh hds
  have nlp : l ≠ dp := fun z => by subst z; rw [own1.h] at hl; cases hl
  have nsl : ds ≠ l := fun z => by subst z; rw [own2.h] at hds; cases hds
  have nsp : ds ≠ dp := fun z => by subst z; rw [(own1.le0 e2).h] at hds; cases hds
  have op3 := (own1.le0 e2).le0 e3
  have ol3 := own2.le0 e3
  have l3 := (e1.trans e2).trans e3
  show tSeq _ _ _ [some v, some (.ref dp), some (.ref l), some (.ref ds), none, none, none] w3.h
  refine sq_for (J := J0) (src_enum (K := K) (ev_var (R := knsR K kns) (v := v) rfl (Rp.mono _ l3.ef h))) (fun i σ1 w4 => Le J0 w w4 ∧ ∃ x4 x5 x6, σ1 = [some v, some (.ref dp), some (.ref l), some (.ref ds), x4, x5, x6] ∧ Own w4 dp (.dK (dLet (dn kns i))) ∧ Own w4 l (.lst []) ∧ Own w4 ds (.dK []))
    (fun w4 e4 => ⟨l3.trans e4, none, none, none, rfl, op3.le0 e4, ol3.le0 e4, own3.le0 e4⟩) ?_ ?_
  · rintro i σ1 w4 hi ⟨l4, x4, x5, x6, rfl, op4, ol4, os4⟩ z w5 e5 hz Kk bk hK
    have hi' : i < kns.length := by simpa using hi
    rw [getD_map hi'] at hz
    refine g_two hz fun a b ha hb => ?_
    cases ha
    have eg : kns.getD i ([], .dot) = kns[i] := by simp [List.getD_eq_getElem?_getD, hi']
    have gi := F.good _ (List.getElem_mem hi')
    show tFor _ _ _ _ [some v, some (.ref dp), some (.ref l), some (.ref ds), some (.int i), some b, x6] w5.h
    have hstr : Ev J0 (tOp (rIxL K) (tVar 5) (tC (.int 0))) [some v, some (.ref dp), some (.ref l), some (.ref ds), some (.int i), some b, x6] w5 (RS (ltr kns[i].1)) := ev_ixL (n := 0) (Rs := [RS (ltr kns[i].1), RS (sgnS kns[i].2), goalR kns[i].2]) (ev_var (v := b) rfl hb) ev_cv rfl
    have hsz : (ltr kns[i].1).cps.size = kns[i].1.length := by show kns[i].1.toArray.size = _; simp
    -- the letters of this knot are new
    have hnew : ∀ j (hj : j < kns[i].1.length), kns[i].1[j] ∉ ((dn kns i ++ (kns[i].1.take j).map fun c => (c, i)).map (·.1)) := by
      intro j hj hm
      have hpre : ∃ suf, dn kns kns.length = (dn kns i ++ (kns[i].1.take j).map fun c => (c, i)) ++ (kns[i].1[j], i) :: suf := by
        have h1 : ∀ n, i + 1 ≤ n → n ≤ kns.length → ∃ suf, dn kns n = dn kns (i + 1) ++ suf := by
          intro n
          induction n with
          | zero => intro h; omega
          | succ n ih =>
            intro h hn
            by_cases e : n = i
            · subst e; exact ⟨[], by simp⟩
            · obtain ⟨suf, hs⟩ := ih (by omega) (by omega)
              exact ⟨suf ++ _, by rw [dn_succ, hs, List.append_assoc]⟩
        obtain ⟨suf, hs⟩ := h1 kns.length (by omega) (Nat.le_refl _)
        refine ⟨(kns[i].1.drop (j + 1)).map (fun c => (c, i)) ++ suf, ?_⟩
        rw [hs, dn_succ, eg]
        have : kns[i].1 = kns[i].1.take j ++ kns[i].1[j] :: kns[i].1.drop (j + 1) := by
          rw [← List.drop_eq_getElem_cons hj, List.take_append_drop]
        have e2 := congrArg (List.map fun c => (c, i)) this
        rw [List.map_append, List.map_cons] at e2
        rw [e2]
        simp only [List.append_assoc, List.cons_append]
      obtain ⟨suf, hs⟩ := hpre
      rw [hs, List.map_append, List.map_cons, List.nodup_append] at hall
      exact hall.2.2 _ hm _ (List.mem_cons_self ..) rfl
    refine st_for (J := J0) (src_str hstr) (fun j σ1 w6 => Le J0 w w6 ∧ Exf w4.f w6.f ∧ ∃ x6, σ1 = [some v, some (.ref dp), some (.ref l), some (.ref ds), some (.int i), some b, x6] ∧ Own w6 dp (.dK (dLet (dn kns i ++ (kns[i].1.take j).map fun c => (c, i)))) ∧ Own w6 l (.lst []) ∧ Own w6 ds (.dK []))
      (fun w6 e6 => ⟨(l4.trans e5).trans e6, fun p o h => e6.ef p o (e5.ef p o h), x6, rfl, by simpa using (op4.le0 e5).le0 e6, (ol4.le0 e5).le0 e6, (os4.le0 e5).le0 e6⟩) ?_ ?_
    · rintro j σ1 w6 hj ⟨l6, ef6, y6, rfl, op6, ol6, os6⟩ y w7 e7 ⟨c, hc, hy⟩ Kw hKw
      cases hy
      rw [hsz] at hj
      have hcc : kns[i].1[j] = c := by
        have : (ltr kns[i].1).cps[j]? = kns[i].1[j]? := by show kns[i].1.toArray[j]? = _; simp
        rw [this, List.getElem?_eq_getElem hj] at hc
        exact Option.some.inj hc
      subst hcc
      show sDPut _ _ _ _ [some v, some (.ref dp), some (.ref l), some (.ref ds), some (.int i), some b, some (.str (chr kns[i].1[j]))] w7.h
      have hlen : (dn kns i ++ (kns[i].1.take j).map fun c => (c, i)).length ≤ 1000 := by
        have h1 := word_len gi hfew
        have h2 : kns[i].1.length ≤ 30 := by
          unfold wordL preL at h1
          split at h1
          · next h => rw [h]; simp
          · simp at h1; omega
        have h3 : ∀ n, n ≤ kns.length → (dn kns n).length ≤ (dn kns kns.length).length := by
          intro n hn
          have : ∀ d, (dn kns n).length ≤ (dn kns (n + d)).length := by
            intro d
            induction d with
            | zero => exact Nat.le_refl _
            | succ d ih => rw [← Nat.add_assoc, dn_succ, List.length_append]; omega
          have := this (kns.length - n)
          rwa [show n + (kns.length - n) = kns.length by omega] at this
        have := h3 i (by omega)
        simp
        omega
      refine st_setD (J := J0) (x := .inr (chr kns[i].1[j])) (op6.le0 e7) id rfl (ev_is (v := .str (chr kns[i].1[j])) rfl) (R := RI i) (ev_is rfl) (by unfold dLet; rw [List.length_map]; omega) fun u w8 w9 e8 hu m9 => ?_
      cases hu
      have op8 := (op6.le0 e7).le0 e8
      have op9 := m9.own op8.f
      rw [put_dLet (hnew j hj)] at op9
      refine hKw _ w9 (fun p o h => m9.ef p o (e8.ef p o (e7.ef p o h))) ⟨((l6.trans e7).trans e8).mt m9 hdp op8.f, fun p o h => m9.ef p o (e8.ef p o (e7.ef p o (ef6 p o h))), _, rfl, ?_, ((ol6.le0 e7).le0 e8).mt m9 nlp, ((os6.le0 e7).le0 e8).mt m9 nsp⟩
      rw [List.take_succ_eq_append_getElem hj, List.map_append, ← List.append_assoc]
      exact op9
    · rintro σ1 w6 ⟨l6, ef6, y6, rfl, op6, ol6, os6⟩
      rw [hsz, List.take_length] at op6
      refine hK _ w6 ef6 ⟨l6, _, _, _, rfl, ?_, ol6, os6⟩
      rw [dn_succ, eg]
      exact op6
  rintro σ1 w4 ⟨l4, x4, x5, x6, rfl, op4, ol4, os4⟩
  have hlen : (knsR K kns).r w4.f v := Rp.mono _ l4.ef h
  rw [List.length_map] at op4
  have hsort : Ev J0 (tCB rSortedD (tCons (tVar 1) tNil)) [some v, some (.ref dp), some (.ref l), some (.ref ds), x4, x5, x6] w4 (LstR K (((prs.map (·.1)).map chr).map RS)) :=
    ev_sortedDO (ls := (dn kns kns.length).map (·.1)) op4 id rfl (by unfold dLet; rw [List.map_map, List.map_map, List.map_map]; rfl) (by rw [List.length_map]; omega) (List.pairwise_map.mpr F.asc) (F.perm.map (·.1)).symm
  refine sq_for (J := J0) (src_list hsort) (fun i σ1 w5 => Le J0 w w5 ∧ ∃ od x4 x6, σ1 = [some v, some (.ref dp), some (.ref l), some (.ref ds), x4, x5, x6] ∧ Own w5 dp (.dK (dLet (dn kns kns.length))) ∧ Own w5 l (.lst ((oz od).map V.int)) ∧ Own w5 ds (.dK (dOf (oz od))) ∧
      koAll kns N ((prs.map (·.2)).drop i) od = some (List.range kns.length) ∧ od.length ≤ i * N)
    (fun w5 e5 => ⟨l4.trans e5, [], x4, x6, rfl, op4.le0 e5, ol4.le0 e5, os4.le0 e5, hord, by simp⟩) ?_ ?_
  · rintro i σ1 w5 hi ⟨l5, od, y4, y6, rfl, op5, ol5, os5, hko, hlo⟩ z w6 e6 hz Kk bk hK
    have hi' : i < prs.length := by simpa using hi
    rw [List.map_map, List.map_map, getD_map hi'] at hz
    cases hz
    have hdr : (prs.map (·.2)).drop i = prs[i].2 :: (prs.map (·.2)).drop (i + 1) := by
      rw [List.drop_eq_getElem_cons (by simpa using hi')]
      simp
    rw [hdr] at hko
    simp only [koAll, Option.bind_eq_some_iff] at hko
    obtain ⟨r, hk1, hk2⟩ := hko
    have hmem : (prs[i].1, prs[i].2) ∈ dn kns kns.length := F.perm.mem_iff.mpr (List.getElem_mem hi')
    show tSeq _ _ _ [some v, some (.ref dp), some (.ref l), some (.ref ds), y4, x5, some (.str (chr prs[i].1))] w6.h
    refine sq_asg (J := J0) (R := RI prs[i].2) (ev_dgetO (x := .inr (chr prs[i].1)) (v := .int prs[i].2) (op5.le0 e6) id rfl (ev_is (v := .str (chr prs[i].1)) rfl) (val_dLet F.let_nodup hmem) rfl) fun u w7 e7 hu => ?_
    cases hu
    have hmul : (i + 1) * N = i * N + N := by rw [Nat.add_mul]; omega
    have hbig : (i + 1) * N ≤ 4 * 1000 := Nat.mul_le_mul (by omega) (by omega)
    refine st_while (J := J0) (m0 := N) (fun m σ1 w8 => Le J0 w w8 ∧ Exf w5.f w8.f ∧ ∃ od vi, σ1 = [some v, some (.ref dp), some (.ref l), some (.ref ds), some vi, x5, some (.str (chr prs[i].1))] ∧ Own w8 dp (.dK (dLet (dn kns kns.length))) ∧ Own w8 l (.lst ((oz od).map V.int)) ∧ Own w8 ds (.dK (dOf (oz od))) ∧
        od.length + m ≤ (i + 1) * N ∧ ((∃ j : Nat, vi = .int j ∧ koGo kns m od j = some r) ∨ (vi = .non ∧ od = r)))
      ⟨(l5.trans e6).trans e7, fun p o h => e7.ef p o (e6.ef p o h), od, .int prs[i].2, rfl, (op5.le0 e6).le0 e7, (ol5.le0 e6).le0 e7, (os5.le0 e6).le0 e7, by omega, .inl ⟨prs[i].2, rfl, hk1⟩⟩ ?_
    rintro m σ1 w8 ⟨l8, ef8, od, vi, rfl, op8, ol8, os8, hm, hcase⟩
    rcases hcase with ⟨j, rfl, hg⟩ | ⟨rfl, rfl⟩
    · obtain ⟨m, rfl⟩ := koGo_succ hg
      have hn : Ev J0 (tNotN (tVar 4)) [some v, some (.ref dp), some (.ref l), some (.ref ds), some (.int j), x5, some (.str (chr prs[i].1))] w8 (RB true) := fun w' e Q q => ⟨.int j, rfl, q _ w' .rfl rfl⟩
      refine ⟨_, et_and (et_b hn) (fun _ => et_b (ev_dniO (x := .inl j) os8 id rfl (ev_is (v := .int j) rfl))) rfl, fun hb w9 e9 Kw hKw => ?_, fun hb w9 e9 => ?_⟩
      · rw [val_dOf] at hb
        have hj : j ∉ od := fun z => by rw [decide_eq_true (mem_oz.mpr z)] at hb; cases hb
        unfold koGo at hg
        rw [if_neg hj] at hg
        refine st_setD (J := J0) (x := .inl j) (os8.le0 e9) id rfl (ev_is (v := .int j) rfl) (R := Is (.bl true)) ev_cv (by rw [dOf_len, List.length_map]; omega) fun u10 w10 w11 e10 hu10 m11 => ?_
        cases hu10
        have os10 := (os8.le0 e9).le0 e10
        have os11 := m11.own os10.f
        rw [put_dOf (fun z => hj (mem_oz.mp z))] at os11
        have ol11 := ((ol8.le0 e9).le0 e10).mt m11 nsl.symm
        have op11 := ((op8.le0 e9).le0 e10).mt m11 nsp.symm
        have l11 := ((l8.trans e9).trans e10).mt m11 hds0 os10.f
        show tSeq _ _ _ _ w11.h
        refine st_app (J := J0) (R := RI j) ol11 id rfl (ev_is rfl) (by rw [List.length_map, List.length_map]; omega) fun u12 w12 w13 e12 hu12 m13 => ?_
        cases hu12
        have ol12 := ol11.le0 e12
        have ol13 := m13.own ol12.f
        have os13 := (os11.le0 e12).mt m13 nsl
        have op13 := (op11.le0 e12).mt m13 nlp.symm
        have l13 := (l11.trans e12).mt m13 hl0 ol12.f
        have hgl : ∃ kn, kns[j]? = some kn ∧ (match kn.2 with | .to k => koGo kns m (od ++ [j]) k | _ => some (od ++ [j])) = some r := by
          unfold goalAt at hg
          cases hkj : kns[j]? with
          | none => rw [hkj] at hg; simp at hg
          | some kn =>
            rw [hkj] at hg
            refine ⟨kn, rfl, ?_⟩
            obtain ⟨a, d⟩ := kn
            cases d <;> simpa using hg
        obtain ⟨kn, hkj, hg2⟩ := hgl
        have hmap : (kns.map (knR K))[j]? = some (knR K kn) := by rw [List.getElem?_map, hkj]; rfl
        refine st_asg (J := J0) (R := goalR kn.2) (ev_ixL (n := 2) (Rs := [RS (ltr kn.1), RS (sgnS kn.2), goalR kn.2]) (ev_ixL (n := j) (ev_var (R := knsR K kns) (v := v) rfl (Rp.mono _ l13.ef h)) (ev_is rfl) hmap) ev_cv rfl) fun u14 w14 e14 hu14 => ?_
        have efs : Exf w5.f w14.f := fun p o h => e14.ef p o (m13.ef p o (e12.ef p o (m11.ef p o (e10.ef p o (e9.ef p o (ef8 p o h))))))
        have eoz : oz (od ++ [j]) = oz od ++ [(j : Int)] := by simp
        refine hKw m _ w14 (Nat.lt_succ_self m) ⟨l13.trans e14, efs, od ++ [j], u14, rfl, op13.le0 e14, by rw [eoz, List.map_append]; exact ol13.le0 e14, by rw [eoz]; exact os13.le0 e14, by rw [List.length_append, List.length_singleton]; omega, ?_⟩
        cases hd : kn.2 with
        | to k => rw [hd] at hu14 hg2; cases hu14; exact .inl ⟨k, rfl, hg2⟩
        | dot => rw [hd] at hu14 hg2; cases hu14; exact .inr ⟨rfl, Option.some.inj hg2⟩
        | bang => rw [hd] at hu14 hg2; cases hu14; exact .inr ⟨rfl, Option.some.inj hg2⟩
      · rw [val_dOf] at hb
        have hj : j ∈ od := by
          by_cases z : j ∈ od
          · exact z
          · rw [decide_eq_false (fun y => z (mem_oz.mp y))] at hb; cases hb
        unfold koGo at hg
        rw [if_pos hj] at hg
        cases hg
        exact hK _ w9 (fun p o h => e9.ef p o (ef8 p o h)) ⟨l8.trans e9, r, _, _, rfl, op8.le0 e9, ol8.le0 e9, os8.le0 e9, hk2, by omega⟩
    · have hn : Ev J0 (tNotN (tVar 4)) [some v, some (.ref dp), some (.ref l), some (.ref ds), some .non, x5, some (.str (chr prs[i].1))] w8 (RB false) := fun w' e Q q => ⟨.non, rfl, q _ w' .rfl rfl⟩
      refine ⟨_, et_and (b := true) (et_b hn) (fun z => nomatch z) rfl, fun hb => absurd hb (by decide), fun hb w9 e9 => ?_⟩
      exact hK _ w9 (fun p o h => e9.ef p o (ef8 p o h)) ⟨l8.trans e9, od, _, _, rfl, op8.le0 e9, ol8.le0 e9, os8.le0 e9, hk2, by omega⟩
  · rintro σ1 w5 ⟨l5, od, y4, y6, rfl, op5, ol5, os5, hko, hlo⟩
    have e : (prs.map (·.2)).drop (((prs.map (·.1)).map chr).map RS).length = [] := by simp
    rw [e] at hko
    cases hko
    exact ⟨.ref l, rfl, q _ (w5.pub l _ ol5.h) (l5.pub hl0 ol5.h) (pub_lst ol5 (allR_ints.mpr rfl))⟩
end
end Z
end

section -- P11
set_option Elab.async false
set_option linter.all false
set_option maxRecDepth 100000
set_option maxHeartbeats 4000000
set_option autoImplicit false
namespace Z
open PySem PySem.Spec L2 K07
open M7 (Names Cells Kn Kd koGo koAll goalAt)
section
variable {J : Addr → Prop} {σ : St} {w w0 w1 : Wd} {ta tb t te : TE} {K : PySem.W.Frag} {cS cP : Addr} {mg : PySem.Str → Option Value} {D : Ends} {sa : TS} {g : TG} {i : Nat} {R : Rp} {kns : List Kn} {prs : List (Nat × Nat)}
def dNum (l : List Nat) : List (Key × V) := l.map fun (i : Nat) => ((Sum.inl (i : Int) : Key), V.int (i : Int))
theorem val_dNum {l : List Nat} {i : Nat} : valV (dNum l) (.inl (i : Int)) = if i ∈ l then some (.int i) else none := by
  unfold dNum
  induction l with
  | nil => rfl
  | cons q l ih =>
    rw [List.map_cons]
    by_cases e : q = i
    · subst e
      rw [valV_pos rfl]
      simp
    · rw [valV_neg (fun z => e (by have := Sum.inl.inj z; omega)), ih]
      have : ¬ i = q := fun z => e z.symm
      simp [this]
theorem put_dNum {l : List Nat} {i : Nat} (h : i ∉ l) : putK (dNum l) (.inl (i : Int)) (.int i) = dNum (l ++ [i]) := by
  rw [putK_new _ (by rw [val_dNum, if_neg h])]
  simp [dNum]
theorem oz_get {n i : Nat} (h : i < n) : ((oz (List.range n)).map RI).getD i (Is .non) = RI i := by
  simp [List.getD_eq_getElem?_getD, h]
theorem word_eq (kn : Kn) : preS kn.1 ++ sgnS kn.2 ++ goalS kn.2 = wordS kn := by
  refine str_ext ?_
  rw [app_cps, app_cps]
  show preL kn.1 ++ [sgn kn.2] ++ goalL kn.2 = wordL kn
  simp [wordL]
theorem get_kn {n : Nat} (h : n < kns.length) : (kns.map (knR K))[n]? = some (LstR K [RS (ltr kns[n].1), RS (sgnS kns[n].2), goalR kns[n].2]) := by
  rw [List.getElem?_map, List.getElem?_eq_getElem h]
  rfl
theorem shape_fits {n : Nat} (hl : kns.length ≤ 100) (hn : n ≤ 100) (g : ∀ kn ∈ kns, GoodK n kn) : ((kns.map wordS).map (·.length)).sum + (kns.map wordS).length * (" " : Str).length ≤ 16777216 := by
  have h2 : ((kns.map wordS).map (·.length)).sum ≤ (kns.map wordS).length * 30 := StrLaws.sumLen_le _ fun y hy => by
    obtain ⟨kn, hk, rfl⟩ := List.mem_map.mp hy
    exact word_len (g kn hk) hn
  have h4 : (" " : Str).length = 1 := rfl
  rw [h4]
  rw [List.length_map] at h2 ⊢
  omega
theorem goodL {n : Nat} {kn : Kn} (g : GoodK n kn) (hn : n ≤ 100) : kn.1.length ≤ 30 := by
  have h1 := word_len g hn
  unfold wordL preL at h1
  split at h1
  · next h => rw [h]; simp
  · simp at h1; omega
theorem pu_shape (hl : kns.length ≤ 100) (gk : ∀ kn ∈ kns, GoodK kns.length kn) : Pu0 (p_shape_of_knots K cS cP) [knsR K kns, LstR K ((oz (List.range kns.length)).map RI)] (RS (shapeS kns)) := pu_2 fun v u w h hu Q q => by
  refine sq_asgN (J := J0) en_dic fun d o w1 e1 hd own1 ho => ?_
  subst ho
  show tSeq _ _ _ [some v, some u, some (.ref d), none, none, none, none, none, none, none] w1.h
  have hlen : ((oz (List.range kns.length)).map RI).length = kns.length := by simp
  have hsrc : ∀ {x2 x3 x4 x5 x6 x7 x8 x9 : Option V} {w' : Wd}, Le J0 w w' → Ev J0 (tVar 1) [some v, some u, x2, x3, x4, x5, x6, x7, x8, x9] w' (LstR K ((oz (List.range kns.length)).map RI)) := fun e => ev_var (v := u) rfl (Rp.mono _ e.ef hu)
  refine sq_for (J := J0) (hlen ▸ src_enum (hsrc e1)) (fun i σ1 w2 => Le J0 w w2 ∧ ∃ x3 x4, σ1 = [some v, some u, some (.ref d), x3, x4, none, none, none, none, none] ∧ Own w2 d (.dK (dNum (List.range i))))
    (fun w2 e2 => ⟨e1.trans e2, none, none, rfl, own1.le0 e2⟩) ?_ ?_
  · rintro i σ1 w2 hi ⟨l2, x3, x4, rfl, od⟩ z w3 e3 hz Kk bk hK
    rw [oz_get hi] at hz
    refine g_two hz fun a b ha hb => ?_
    cases ha
    cases hb
    show sDPut _ _ _ _ [some v, some u, some (.ref d), some (.int i), some (.int i), none, none, none, none, none] w3.h
    refine st_setD (J := J0) (x := .inl i) (od.le0 e3) id rfl (ev_is (v := .int i) rfl) (R := RI i) (ev_is rfl) (by unfold dNum; simp; omega) fun u4 w4 w5 e4 hu4 m5 => ?_
    cases hu4
    have o4 := (od.le0 e3).le0 e4
    have o5 := m5.own o4.f
    rw [put_dNum (by simp), ← List.range_succ] at o5
    exact hK _ w5 (fun p o h => m5.ef p o (e4.ef p o (e3.ef p o h))) ⟨((l2.trans e3).trans e4).mt m5 hd o4.f, _, _, rfl, o5⟩
  rintro σ1 w2 ⟨l2, x3, x4, rfl, od⟩
  refine sq_asgN (J := J0) (en_lst ea_nil (by simp)) fun l o w3 e3 hl3 own3 ⟨xs, ho, hxs⟩ => ?_
  cases hxs.nil_inv
  subst ho
  have hl0 : w.h l = none := l2.fresh hl3
  have nld : l ≠ d := fun z => by subst z; rw [od.h] at hl3; cases hl3
  have l3 := l2.trans e3
  show tSeq _ _ _ [some v, some u, some (.ref d), x3, x4, some (.ref l), none, none, none, none] w3.h
  refine sq_for (J := J0) (hlen ▸ src_list (hsrc l3)) (fun i σ1 w4 => Le J0 w w4 ∧ ∃ x4 x6 x7 x8 x9, σ1 = [some v, some u, some (.ref d), x3, x4, some (.ref l), x6, x7, x8, x9] ∧ Own w4 d (.dK (dNum (List.range kns.length))) ∧ Own w4 l (.lst (((kns.take i).map wordS).map V.str)))
    (fun w4 e4 => ⟨l3.trans e4, x4, none, none, none, none, rfl, (od.le0 e3).le0 e4, own3.le0 e4⟩) ?_ ?_
  · rintro i σ1 w4 hi ⟨l4, x4, x6, x7, x8, x9, rfl, od4, ol4⟩ z w5 e5 hz Kk bk hK
    rw [oz_get hi] at hz
    cases hz
    have gi := gk _ (List.getElem_mem hi)
    have gL := goodL gi hl
    show tSeq _ _ _ [some v, some u, some (.ref d), x3, some (.int i), some (.ref l), x6, x7, x8, x9] w5.h
    refine sq_asgG (J := J0) (ev_ixL (n := i) (ev_var (R := knsR K kns) (v := v) rfl (Rp.mono _ (l4.trans e5).ef h)) (ev_is rfl) (get_kn hi)) fun vk w6 e6 hk => g_unl3 hk fun a b c ha hb hc => ?_
    cases ha
    cases hb
    show tSeq _ _ _ [some v, some u, some (.ref d), x3, some (.int i), some (.ref l), some (.str (ltr kns[i].1)), some (.str (sgnS kns[i].2)), some c, x9] w6.h
    generalize hkn : kns[i] = kn at gi gL hc
    refine sq_asg (J := J0) (R := RS (preS kn.1)) (ev_if (P := (· = !decide (kn.1 = []))) (et_test (ev_ne (ev_is rfl) ev_cv rfl ?_)) (fun hb => ?_) (fun hb => ?_)) fun v7 w7 e7 h7 => ?_
    · by_cases hz : kn.1 = []
      · rw [hz]; rfl
      · have := eq_str_l (a := ltr kn.1) (b := "") (by show kn.1 ≠ []; exact hz)
        rw [this, decide_eq_false hz]
    · have hz : ¬ kn.1 = [] := fun z => by rw [z] at hb; simp at hb
      have e : preS kn.1 = PySem.Txt.join "" (kn.1.map chr) := by rw [join_chr]; unfold preS ltr preL; rw [if_neg hz]
      rw [e]
      exact ev_joinR ev_cv (ev_sortedT (ls := kn.1) (ev_is rfl) (by omega) gi.asc (.refl _)) (by rw [chr_sum]; show _ + _ * 0 ≤ _; omega)
    · have hz : kn.1 = [] := by
        by_cases z : kn.1 = []
        · exact z
        · rw [decide_eq_false z] at hb; cases hb
      have e : preS kn.1 = "-" := str_ext (by rw [mi_l]; show preL kn.1 = _; unfold preL; rw [if_pos hz])
      rw [e]
      exact ev_cv
    · cases h7
      show tDrop _ _ [some v, some u, some (.ref d), x3, some (.int i), some (.ref l), some (.str (ltr kn.1)), some (.str (sgnS kn.2)), some c, some (.str (preS kn.1))] w7.h
      have h30 : (preS kn.1).length ≤ 30 := by
        have e : (preS kn.1).length = (preL kn.1).length := by show (preL kn.1).toArray.size = _; simp
        rw [e]
        unfold preL
        split
        · simp
        · exact gL
      have hs1 : (sgnS kn.2).length = 1 := rfl
      have hg2 := f5 gi hl
      have od7 := ((od4.le0 e5).le0 e6).le0 e7
      refine st_app (J := J0) (R := RS (preS kn.1 ++ sgnS kn.2 ++ goalS kn.2)) (((ol4.le0 e5).le0 e6).le0 e7) id rfl (ev_addS (ev_addS (ev_is rfl) (ev_is rfl) (by rw [hs1]; exact Nat.le_trans (show (preS kn.1).length + 1 ≤ 100 by omega) (by decide))) (ev_if (et_test (ev_eq (ev_is rfl) ev_cv rfl (f2 kn.2))) (fun hb => ?_) (fun hb => ?_)) (by rw [app_len, hs1]; exact Nat.le_trans (show (preS kn.1).length + 1 + (goalS kn.2).length ≤ 100 by omega) (by decide))) (by simp; omega) fun v8 w8 w9 e8 h8 m9 => ?_
      · cases hd : kn.2 with
        | dot => rw [hd] at hb; cases hb
        | bang => rw [hd] at hb; cases hb
        | to k =>
          rw [hd] at hc
          have hc : c = .int k := hc
          subst hc
          have hk := gi.to_ k hd
          rw [goal_to]
          exact ev_strI (ev_dgetO (x := .inl k) (v := .int k) od7 id rfl (ev_is (v := .int k) rfl) (by rw [val_dNum, if_pos (List.mem_range.mpr hk)]) rfl) (by
            have : (k : Int).natAbs = k := by omega
            rw [this]
            exact Nat.lt_of_le_of_lt (Nat.log2_le_self k) (by omega))
      · cases hd : kn.2 with
        | dot => exact ev_cv
        | bang => exact ev_cv
        | to k => rw [hd] at hb; cases hb
      · cases h8
        have ol8 := (((ol4.le0 e5).le0 e6).le0 e7).le0 e8
        refine hK _ w9 (fun p o h => m9.ef p o (e8.ef p o (e7.ef p o (e6.ef p o (e5.ef p o h))))) ⟨((((l4.trans e5).trans e6).trans e7).trans e8).mt m9 hl0 ol8.f, _, _, _, _, _, rfl, (od7.le0 e8).mt m9 nld.symm, ?_⟩
        rw [List.take_succ_eq_append_getElem hi, List.map_append, List.map_append, hkn, List.map_singleton, List.map_singleton, ← word_eq]
        exact m9.own ol8.f
  · rintro σ1 w4 ⟨l4, x4, x6, x7, x8, x9, rfl, od4, ol4⟩
    rw [List.take_length] at ol4
    have lp : Le J0 w (w4.pub l _ ol4.h) := l4.pub hl0 ol4.h
    show tRet (tM1 (rJoin K) (tC (.str " ")) (tVar 5)) { nx := fun _ H' => Q .non H', rt := Q } [some v, some u, some (.ref d), x3, x4, some (.ref l), x6, x7, x8, x9] (w4.pub l _ ol4.h).h
    exact st_ret (J := J0) (ev_joinR ev_cv (ev_var (v := .ref l) rfl (pub_lst ol4 (allR_strs.mpr rfl))) (shape_fits hl hl gk)) fun vr wr er hr => q vr wr (lp.trans er) hr
end
end Z
end

section -- P12
set_option Elab.async false
set_option linter.all false
set_option maxRecDepth 100000
set_option maxHeartbeats 4000000
set_option autoImplicit false
namespace Z
open PySem PySem.Spec L2 K07
open M7 (Names Cells Kn Kd koGo koAll goalAt)
section
variable {J : Addr → Prop} {σ : St} {w w0 w1 : Wd} {ta tb t te : TE} {K : PySem.W.Frag} {cS cP : Addr} {mg : PySem.Str → Option Value} {D : Ends} {sa : TS} {g : TG} {i : Nat} {R : Rp} {kns : List Kn} {prs : List (Nat × Nat)}
theorem allR_bls {f : Hp} : ∀ {l : List Bool} {xs : List V}, AllR f (l.map RB) xs ↔ xs = l.map V.bl
  | [], xs => ⟨fun h => h.nil_inv, fun h => by subst h; trivial⟩
  | a :: l, xs => ⟨fun h => by
      obtain ⟨v, ws, rfl, h1, h2⟩ := h.cons_inv
      cases h1
      rw [allR_bls.mp h2]
      rfl, fun h => by subst h; exact ⟨rfl, allR_bls.mpr rfl⟩⟩
theorem ev_all {bs : List Bool} {b : Bool} (ha : Ev J ta σ w (LstR K (bs.map RB))) (hb : bs.all id = b) : Ev J (tCB (rAll K) (tCons ta tNil)) σ w (RB b) := fun w' e Q q => ha w' e _ fun v w1 e1 ⟨a, xs, h1, h2, h3⟩ => by
  have := allR_bls.mp h3
  subst this
  exact ⟨a, bs, by rw [h1], sqL_h w1 h2, q _ w1 e1 (by rw [hb]; rfl)⟩
theorem ev_any {bs : List Bool} {b : Bool} (ha : Ev J ta σ w (LstR K (bs.map RB))) (hb : bs.any id = b) : Ev J (tCB (rAny K) (tCons ta tNil)) σ w (RB b) := fun w' e Q q => ha w' e _ fun v w1 e1 ⟨a, xs, h1, h2, h3⟩ => by
  have := allR_bls.mp h3
  subst this
  exact ⟨a, bs, by rw [h1], sqL_h w1 h2, q _ w1 e1 (by rw [hb]; rfl)⟩
/-- [elt for x in a list of things] where all are taken -/
theorem ev_lcAll {α : Type} {l : List α} {A E : α → Rp} (h : Ev J ta σ w (LstR K (l.map A))) (hl : l.length ≤ 10000) (turn : ∀ a ∈ l, ∀ w1, Le J w w1 → ∀ x, (A a).r w1.f x → Ev J te ((wipe σ [i]).set i (some x)) w1 (E a))
    (hj : ∀ D, w.h D = none → ¬ J D) : Ev J (tLc (iList K ta) (gName i) tYes te [i]) σ w (LstR K (l.map E)) := by
  have hs := src_list h
  rw [List.length_map] at hs
  have key : keptR l.length (fun _ => true) (fun k => (l.map E).getD k (Is .non)) = l.map E := by
    rw [keptR_all]
    refine List.ext_getElem (by simp) fun k h1 h2 => ?_
    have hk : k < l.length := by simpa using h1
    simp [List.getD_eq_getElem?_getD, hk]
  rw [← key]
  refine en_lstR (ev_lc1 _ _ hs hl (fun k w1 hk e1 x hx => ⟨et_yes, fun _ => ?_⟩) hj)
  rw [getD_map hk] at hx ⊢
  exact turn _ (List.getElem_mem hk) w1 e1 x hx
/-- [x for x in a list of things if ..] -/
theorem ev_lcIf {α : Type} {l : List α} {A E : α → Rp} {f : α → Bool} {tt : TT} (h : Ev J ta σ w (LstR K (l.map A))) (hl : l.length ≤ 10000) (turn : ∀ a ∈ l, ∀ w1, Le J w w1 → ∀ x, (A a).r w1.f x → EvB J tt ((wipe σ [i]).set i (some x)) w1 (f a) ∧ (f a = true → Ev J te ((wipe σ [i]).set i (some x)) w1 (E a)))
    (hj : ∀ D, w.h D = none → ¬ J D) : Ev J (tLc (iList K ta) (gName i) tt te [i]) σ w (LstR K ((l.filter f).map E)) := by
  have hs := src_list h
  rw [List.length_map] at hs
  have key : keptR l.length (fun k => (l[k]?.map f).getD false) (fun k => (l.map E).getD k (Is .non)) = (l.filter f).map E := keptR_map (fun k hk => by simp [hk]) (fun k hk => by simp [List.getD_eq_getElem?_getD, hk])
  rw [← key]
  refine en_lstR (ev_lc1 _ _ hs hl (fun k w1 hk e1 x hx => ?_) hj)
  rw [getD_map hk] at hx
  have := turn _ (List.getElem_mem hk) w1 e1 x hx
  have e2 : (l[k]?.map f).getD false = f l[k] := by simp [hk]
  have e3 : (l.map E).getD k (Is .non) = E l[k] := getD_map hk
  rw [e2, e3]
  exact this
theorem dn_map (kns : List Kn) : ∀ n, n ≤ kns.length → (dn kns n).map (·.1) = (kns.take n).flatMap (·.1)
  | 0, _ => rfl
  | n + 1, h => by
    have hn : n < kns.length := by omega
    rw [dn_succ, List.map_append, dn_map kns n (by omega), List.take_succ_eq_append_getElem hn, List.flatMap_append]
    simp [List.getD_eq_getElem?_getD, hn, Function.comp_def]
theorem flat_eq (kns : List Kn) : (dn kns kns.length).map (·.1) = kns.flatMap (·.1) := by
  rw [dn_map kns _ (Nat.le_refl _), List.take_length]
theorem join_ltr (ls : List (List Nat)) : PySem.Txt.join "" (ls.map ltr) = ltr ls.flatten := by
  have e : PySem.Txt.join "" (ls.map ltr) = Str.join "" (ls.map ltr) := StrLaws.glued_eq_join _ _
  rw [e]
  refine str_ext ?_
  show _ = ls.flatten
  clear e
  induction ls with
  | nil => rfl
  | cons a ls ih =>
    cases ls with
    | nil => show (ltr a).cps.toList = _; simp [ltr]
    | cons b ls =>
      show ((ltr a ++ "" ++ Str.join "" ((b :: ls).map ltr)).cps).toList = _
      rw [app_cps, app_cps, ih]
      show a ++ [] ++ _ = _
      simp
theorem KnF.flat (F : KnF kns prs) : (kns.flatMap (·.1)).length ≤ 4 ∧ 1 ≤ (kns.flatMap (·.1)).length ∧ (kns.flatMap (·.1)).Nodup ∧ ∀ c ∈ kns.flatMap (·.1), 97 ≤ c ∧ c ≤ 122 := by
  have h := F.perm.map (·.1)
  rw [flat_eq] at h
  have hl := h.length_eq
  rw [List.length_map] at hl
  have := F.four
  have := F.one
  refine ⟨by omega, by omega, by rw [← flat_eq]; exact F.let_nodup, fun c hc => ?_⟩
  obtain ⟨kn, hk, hc⟩ := List.mem_flatMap.mp hc
  exact (F.good kn hk).let_ c hc
theorem ltr_len (ls : List Nat) : (ltr ls).length = ls.length := by show ls.toArray.size = _; simp
theorem pu_right (F : KnF kns prs) : Pu0 (p_are_knots_right K cS cP) [knsR K kns] (RB true) := pu_1 fun v w h Q q => by
  have hfew := F.few
  obtain ⟨f1, f2', f3, f4'⟩ := F.flat
  have hk : ∀ {x1 x2 x3 : Option V} {w' : Wd}, Le J0 w w' → Ev J0 (tVar 0) [some v, x1, x2, x3] w' (LstR K (kns.map (knR K))) := fun e => ev_var (v := v) rfl (Rp.mono _ e.ef h)
  refine sq_asg (J := J0) (R := RS (ltr (kns.flatMap (·.1)))) (Ev.of (ev_joinR (K := K) (ys := (kns.map (·.1)).map ltr) ev_cv ?_ ?_) (by rw [join_ltr]; rfl)) fun v1 w1 e1 h1 => ?_
  · rw [List.map_map, List.map_map]
    refine ev_lcAll (E := fun kn => RS (ltr kn.1)) (hk .rfl) (by omega) (fun kn hkn w1 e1 x hx => ?_) fun _ _ => id
    exact ev_ixL (n := 0) (Rs := [RS (ltr kn.1), RS (sgnS kn.2), goalR kn.2]) (ev_var (v := x) rfl hx) ev_cv rfl
  · have h2 : (((kns.map (·.1)).map ltr).map (·.length)).sum ≤ ((kns.map (·.1)).map ltr).length * 30 := StrLaws.sumLen_le _ fun y hy => by
      obtain ⟨l, hl, rfl⟩ := List.mem_map.mp hy
      obtain ⟨kn, hkn, rfl⟩ := List.mem_map.mp hl
      rw [ltr_len]
      exact goodL (F.good kn hkn) hfew
    have h4 : ("" : Str).length = 0 := rfl
    rw [h4]
    simp only [List.length_map] at h2 ⊢
    omega
  cases h1
  show tSeq _ _ _ [some v, some (.str (ltr (kns.flatMap (·.1)))), none, none] w1.h
  have hv1 : ∀ {x2 x3 : Option V} {w' : Wd}, Ev J0 (tVar 1) [some v, some (.str (ltr (kns.flatMap (·.1)))), x2, x3] w' (RS (ltr (kns.flatMap (·.1)))) := ev_is rfl
  have hlS : ∀ {x2 x3 : Option V} {w' : Wd}, Ev J0 (tCB rLenS (tCons (tVar 1) tNil)) [some v, some (.str (ltr (kns.flatMap (·.1)))), x2, x3] w' (RI (kns.flatMap (·.1)).length) := (ev_lenS hv1 (by rw [ltr_len]; exact Nat.le_trans f1 (by decide))).of (by rw [ltr_len])
  have hset : ∀ {x2 x3 : Option V} {w' : Wd}, Ev J0 (tLenSetS (tVar 1)) [some v, some (.str (ltr (kns.flatMap (·.1)))), x2, x3] w' (RI (kns.flatMap (·.1)).length) := fun w' e Q q =>
    ⟨_, rfl, ltr (kns.flatMap (·.1)), rfl, by rw [signs_ltr]; exact nodup_map_inj (fun a b => chr_inj) f3, by have e := ltr_len (kns.flatMap (·.1)); show (ltr (kns.flatMap (·.1))).length < 1000; omega, q _ w' .rfl (by show V.int _ = V.int _; have e := ltr_len (kns.flatMap (·.1)); show V.int (((ltr (kns.flatMap (·.1))).length : Nat) : Int) = _; rw [e])⟩
  refine st_skip (J := J0) (et_or (a := false) (b := false) (et_not (b := true) (et_test (ev_chain (x := true) (y := true) ev_cv hlS ev_cv (decide_eq_true (by omega)) (decide_eq_true (by omega)) rfl)) rfl) (fun _ => et_test (ev_ne hset hlS rfl (by simp))) rfl) fun w2 e2 => ?_
  refine st_skip (J := J0) (et_test (ev_neD (d := .list []) (e := .list []) (ev_lstD (ds := []) ?_) (ev_lstD (ds := []) (ev_lst ea_nil (by simp))) rfl rfl rfl)) fun w3 e3 => ?_
  · have hs := src_str (J := J0) (σ := [some v, some (.str (ltr (kns.flatMap (·.1)))), none, none]) (w := w2) (te := tVar 1) (z := ltr (kns.flatMap (·.1))) hv1
    have key : ∀ n, keptR n (fun _ => false) (fun _ => Is V.non) = [] := fun n => by unfold keptR; rw [List.filter_eq_nil_iff.mpr (by simp)]; rfl
    rw [List.map_nil, ← key (ltr (kns.flatMap (·.1))).cps.size]
    refine en_lstR (ev_lc1 _ _ hs (by have e := ltr_len (kns.flatMap (·.1)); show (ltr (kns.flatMap (·.1))).length ≤ 10000; omega) (fun k w4 hk e4 x ⟨c, hc, hx⟩ => ⟨et_test (ev_ninS (c := c) (ev_var (v := x) rfl hx) ev_cv ?_), fun h => nomatch h⟩) fun _ _ => id)
    have hm : c ∈ kns.flatMap (·.1) := by
      have : (ltr (kns.flatMap (·.1))).cps.toList[k]? = some c := by rw [Array.getElem?_toList]; exact hc
      exact List.mem_of_getElem? this
    have := f4' c hm
    rw [let_mem this.1 this.2]
    rfl
  refine st_skip (J := J0) (et_test (ev_gt (a := (kns.filter fun kn => decide (kn.2 = .dot)).length) (b := 1) ((ev_lenL (Rs := (kns.filter fun kn => decide (kn.2 = .dot)).map (knR K)) ?_).of (by rw [List.length_map])) ev_cv ?_)) fun w4 e4 => ?_
  · refine ev_lcIf (hk ((e1.trans e2).trans e3)) (by omega) (fun kn hkn w5 e5 x hx => ⟨et_test (ev_eq (a := .str (sgnS kn.2)) (ev_ixL (n := 1) (Rs := [RS (ltr kn.1), RS (sgnS kn.2), goalR kn.2]) (ev_var (v := x) rfl hx) ev_cv rfl) ev_cv rfl ?_), fun _ => ev_var (v := x) rfl hx⟩) fun _ _ => id
    have hdot : ("." : Str).cps.toList = [46] := by decide +kernel
    cases hd : kn.2 with
    | dot => exact decide_eq_true (congrArg V.str (str_ext hdot.symm))
    | bang => exact eq_str_l (by rw [hdot]; decide)
    | to k => exact eq_str_l (by rw [hdot]; show [62] ≠ [46]; decide)
  · have := F.dots
    rw [List.countP_eq_length_filter] at this
    simp
    omega
  refine st_ret (J := J0) (ev_all (bs := kns.map fun _ => true) ?_ (by simp)) fun vr wr er hr => q vr wr ((((e1.trans e2).trans e3).trans e4).trans er) hr
  rw [List.map_map]
  have l4 := ((e1.trans e2).trans e3).trans e4
  refine ev_lcAll (E := fun _ => RB true) (hk l4) (by omega) (fun kn hkn w5 e5 x hx => ?_) fun _ _ => id
  have hg : Ev J0 (tOp (rIxL K) (tVar 2) (tC (.int 2))) [some v, some (.str (ltr (kns.flatMap (·.1)))), some x, none] w5 (goalR kn.2) := ev_ixL (n := 2) (Rs := [RS (ltr kn.1), RS (sgnS kn.2), goalR kn.2]) (ev_var (v := x) rfl hx) ev_cv rfl
  cases hd : kn.2 with
  | to k =>
    have hk' := (F.good kn hkn).to_ k hd
    rw [hd] at hg
    exact fun w' e Q q => hg w' e _ fun v5 w6 e6 h5 => ⟨false, by cases h5; rfl, ev_lt (b := kns.length) hg ((ev_lenL (hk ((l4.trans e5))) : Ev J0 (tCB (rLenQ K) (tCons (tVar 0) tNil)) [some v, some (.str (ltr (kns.flatMap (·.1)))), some x, none] w5 _).of (by rw [List.length_map])) (by simp; omega) w6 (e.trans e6) _ fun v7 w7 e7 h7 => q v7 w7 (e6.trans e7) h7⟩
  | dot => rw [hd] at hg; exact fun w' e Q q => hg w' e _ fun v5 w6 e6 h5 => ⟨true, by cases h5; rfl, q _ w6 e6 rfl⟩
  | bang => rw [hd] at hg; exact fun w' e Q q => hg w' e _ fun v5 w6 e6 h5 => ⟨true, by cases h5; rfl, q _ w6 e6 rfl⟩
end
end Z
end

section -- P13
set_option Elab.async false
set_option linter.all false
set_option maxRecDepth 100000
set_option maxHeartbeats 4000000
set_option autoImplicit false
namespace Z
open PySem PySem.Spec L2 K07
open M7 (Names Cells Kn Kd koGo koAll goalAt)
section
variable {J : Addr → Prop} {σ : St} {w w0 w1 : Wd} {ta tb t te : TE} {K : PySem.W.Frag} {cS cP : Addr} {mg : PySem.Str → Option Value} {D : Ends} {sa : TS} {g : TG} {i : Nat} {R : Rp} {kns : List Kn} {prs : List (Nat × Nat)}
/-- how many of some knots lead to each -/
def cntTo (n : Nat) (ks : List Kn) : List Int := (List.range n).map fun j => ((ks.countP fun kn => decide (kn.2 = .to j) : Nat) : Int)
theorem cntTo_get {n j : Nat} {ks : List Kn} (h : j < n) : (cntTo n ks)[j]? = some ((ks.countP fun kn => decide (kn.2 = .to j) : Nat) : Int) := by
  simp [cntTo, h]
theorem cntTo_len (n : Nat) (ks : List Kn) : (cntTo n ks).length = n := by simp [cntTo]
theorem cntTo_snoc_to {n k : Nat} {ks : List Kn} {kn : Kn} (hd : kn.2 = .to k) (hk : k < n) : (cntTo n ks).set k (((ks.countP fun kn => decide (kn.2 = .to k) : Nat) : Int) + 1) = cntTo n (ks ++ [kn]) := by
  refine List.ext_getElem (by simp [cntTo]) fun j h1 h2 => ?_
  have hj : j < n := by simpa [cntTo] using h1
  rw [List.getElem_set]
  simp only [cntTo, List.getElem_map, List.getElem_range, List.countP_append]
  by_cases e : k = j
  · subst e
    rw [if_pos rfl, List.countP_cons_of_pos (by simp [hd])]
    simp
  · rw [if_neg e, List.countP_cons_of_neg (by simp [hd, e])]
    simp
theorem cntTo_snoc_no {n : Nat} {ks : List Kn} {kn : Kn} (hd : isTo kn.2 = false) : cntTo n ks = cntTo n (ks ++ [kn]) := by
  refine List.ext_getElem (by simp [cntTo]) fun j h1 h2 => ?_
  simp only [cntTo, List.getElem_map, List.getElem_range, List.countP_append]
  have hne : ¬ kn.2 = .to j := fun e => by rw [e] at hd; cases hd
  rw [List.countP_cons_of_neg (by simp [hne])]
  simp
theorem st_augO {l : Addr} {xs : List V} {n : Nat} {a b : Int} (hl : Own w l (.lst xs)) (hv : σ[i]? = some (some (.ref l))) (hi : Ev J0 tb σ w (RI n)) (ha : xs[n]? = some (.int a)) (h : Ev J0 te σ w (RI b)) (hz : xs.length < 2 ^ 60) (k : ∀ w1 w2, Le J0 w w1 → Mt l (.lst (xs.set n (.int (a + b)))) w1 w2 → D.nx σ w2.h) :
    tAugS (tVar i) tb te (rGetA K) (ipI fun i j => i + j) rSetL D σ w.h :=
  ⟨.ref l, hv, hi w .rfl _ fun v w1 e1 h1 => by
    have hn : n < xs.length := (List.getElem?_eq_some_iff.mp ha).1
    refine ⟨l, xs, n, .int a, rfl, h1, by omega, .inl (.inl (hl.le0 e1).h), by simpa using ha, h w1 e1 _ fun u w2 e2 h2 => ?_⟩
    refine ⟨a, b, rfl, h2, l, xs, n, n, rfl, h1, (hl.le0 (e1.trans e2)).h, ?_, k w2 (w2.put l _ (hl.le0 (e1.trans e2)).f) (e1.trans e2) (Wd.put_mt _)⟩
    unfold ixN
    rw [if_pos (by omega), if_pos (by omega)]
    simp⟩
theorem getD_at {α : Type} {l : List α} {d : α} {i : Nat} (h : i < l.length) : l.getD i d = l[i] := by simp [List.getD_eq_getElem?_getD, h]
theorem pu_needless (F : KnF kns prs) : Pu0 (p_has_needless_knot K cS cP) [knsR K kns] (RB false) := pu_1 fun v w h Q q => by
  have hfew := F.few
  have hk : ∀ {x1 x2 x3 : Option V} {w' : Wd}, Le J0 w w' → Ev J0 (tVar 0) [some v, x1, x2, x3] w' (LstR K (kns.map (knR K))) := fun e => ev_var (v := v) rfl (Rp.mono _ e.ef h)
  have hrep : EvN J0 (tOp rRep (tLst (tCons (tC (.int 0)) tNil)) (tCB (rLenQ K) (tCons (tVar 0) tNil))) [some v, none, none, none] w fun _ o => o = .lst ((cntTo kns.length []).map V.int) := fun w' e Q q =>
    en_lst (J := J0) (w := w') (ea_cons (R := RI 0) ev_cv ea_nil) (by simp) w' .rfl _ fun p o w1 e1 hp own ⟨xs, ho, hxs⟩ => by
      subst ho
      obtain ⟨x, ys, rfl, hx, hxs⟩ := hxs.cons_inv
      cases hxs.nil_inv
      cases hx
      refine ev_lenL (J := J0) (hk (e.trans e1)) w1 .rfl _ fun u w2 e2 hu => ?_
      refine ⟨p, _, _, rfl, hu, (own.le0 e2).h, by simp <;> omega, by simp <;> omega, by simp; exact Nat.le_trans (m := 100) hfew (by decide), fun p2 hp2 => ?_⟩
      have e3 : (List.replicate (((kns.map (knR K)).length : Nat) : Int).toNat [V.int 0]).flatten = (cntTo kns.length []).map V.int := by
        refine List.ext_getElem (by simp [cntTo]) fun j h1 h2 => ?_
        simp [cntTo]
      rw [e3]
      exact q p2 _ (w2.put p2 _ (w2.fresh_f hp2)) ((e1.trans e2).trans (put_le hp2)) ((e1.trans e2).fresh hp2) (Mt.own (Wd.put_mt _) (w2.fresh_f hp2)) rfl
  refine sq_asgN (J := J0) hrep fun l o w1 e1 hl own1 ho => ?_
  subst ho
  show tSeq _ _ _ [some v, some (.ref l), none, none] w1.h
  have hs := src_list (hk (x1 := some (.ref l)) (x2 := none) (x3 := none) e1)
  rw [List.length_map] at hs
  refine sq_for (J := J0) hs (fun i σ1 w2 => Le J0 w w2 ∧ ∃ x2, σ1 = [some v, some (.ref l), x2, none] ∧ Own w2 l (.lst ((cntTo kns.length (kns.take i)).map V.int)))
    (fun w2 e2 => ⟨e1.trans e2, none, rfl, own1.le0 e2⟩) ?_ ?_
  · rintro i σ1 w2 hi ⟨l2, x2, rfl, own2⟩ x w3 e3 hx Kk bk hK
    rw [getD_map hi] at hx
    have gi := F.good _ (List.getElem_mem hi)
    have hgl : Ev J0 (tOp (rIxL K) (tVar 2) (tC (.int 2))) [some v, some (.ref l), some x, none] w3 (goalR kns[i].2) := ev_ixL (n := 2) (Rs := [RS (ltr kns[i].1), RS (sgnS kns[i].2), goalR kns[i].2]) (ev_var (v := x) rfl hx) ev_cv rfl
    have htk : kns.take (i + 1) = kns.take i ++ [kns[i]] := List.take_succ_eq_append_getElem hi
    generalize hkn : kns[i] = kn at gi hgl htk
    have hno : Ev J0 (tNotN (tOp (rIxL K) (tVar 2) (tC (.int 2)))) [some v, some (.ref l), some x, none] w3 (RB (isTo kn.2)) := fun w' e Q q => hgl w' e _ fun u w4 e4 hu => q _ w4 e4 (by
      cases hd : kn.2 with
      | dot => rw [hd] at hu; cases hu; rfl
      | bang => rw [hd] at hu; cases hu; rfl
      | to k => rw [hd] at hu; cases hu; rfl)
    show tIfS _ _ _ _ [some v, some (.ref l), some x, none] w3.h
    refine st_if (J := J0) (et_b hno) (fun hb w4 e4 => ?_) (fun hb w4 e4 => ?_)
    · cases hd : kn.2 with
      | dot => rw [hd] at hb; cases hb
      | bang => rw [hd] at hb; cases hb
      | to k =>
        have hk' := gi.to_ k hd
        rw [hd] at hgl
        refine st_augO ((own2.le0 e3).le0 e4) rfl (hgl.le e4) (a := ((kns.take i).countP fun kn => decide (kn.2 = .to k) : Nat)) (by rw [List.getElem?_map, cntTo_get hk']; rfl) (ev_cv : Ev J0 _ _ _ (RI 1)) (by rw [List.length_map, cntTo_len]; omega) fun w5 w6 e5 m6 => ?_
        have o5 := ((own2.le0 e3).le0 e4).le0 e5
        have o6 := m6.own o5.f
        refine hK _ w6 (fun p o h => m6.ef p o (e5.ef p o (e4.ef p o (e3.ef p o h)))) ⟨(((l2.trans e3).trans e4).trans e5).mt m6 hl o5.f, _, rfl, ?_⟩
        rw [htk, ← cntTo_snoc_to hd hk', List.map_set]
        exact o6
    · refine hK _ w4 (fun p o h => e4.ef p o (e3.ef p o h)) ⟨(l2.trans e3).trans e4, _, rfl, ?_⟩
      rw [htk, ← cntTo_snoc_no hb.symm]
      exact (own2.le0 e3).le0 e4
  rintro σ1 w2 ⟨l2, x2, rfl, own2⟩
  rw [List.take_length] at own2
  have lp : Le J0 w (w2.pub l _ own2.h) := l2.pub hl own2.h
  have hent := pub_lst (K := K) own2 (allR_ints.mpr rfl)
  show tRet (tCB (rAny K) (tCons (tLc (iEnum K (tCons (tVar 0) tNil)) (gTup K 2 (gCons (gName 3) (gCons (gName 2) gNil))) tYes (tAndV (tOp rEq (tOp (rIxL K) (tVar 2) (tC (.int 0))) (tC (.str ""))) (tAndV (tOp rEq (tOp (rIxL K) (tVar 2) (tC (.int 1))) (tC (.str ">"))) (tOp rLtI (tOp (rIxL K) (tVar 1) (tVar 3)) (tC (.int 2))))) [3, 2]) tNil)) { nx := fun _ H' => Q .non H', rt := Q } [some v, some (.ref l), x2, none] (w2.pub l _ own2.h).h
  refine st_ret (J := J0) (ev_any (bs := (List.range kns.length).map fun _ => false) ?_ (by simp)) fun vr wr er hr => q vr wr (lp.trans er) hr
  rw [List.map_map, ← keptR_all]
  have hs2 := src_enum (K := K) (hk (x1 := some (.ref l)) (x2 := x2) (x3 := none) lp)
  rw [List.length_map] at hs2
  refine en_lstR (ev_lc2 (A := fun i => RI i) (B := fun i => (kns.map (knR K)).getD i (Is .non)) _ _ hs2 (fun _ _ _ _ h => h) (by omega) (fun x y => by rfl) (fun k w4 hk4 e4 x y hx hy => ⟨et_yes, fun _ => ?_⟩) fun _ _ => id)
  rw [getD_map hk4] at hy
  cases hx
  have hy' : Ev J0 (tVar 2) [some v, some (.ref l), some y, some (.int k)] w4 (LstR K [RS (ltr kns[k].1), RS (sgnS kns[k].2), goalR kns[k].2]) := ev_var (v := y) rfl hy
  have hfalse : ((decide (kns[k].1 = []) && (isTo kns[k].2 && decide (((kns.countP fun kn => decide (kn.2 = .to k) : Nat) : Int) < 2)))) = false := by
    by_cases h1 : kns[k].1 = []
    · cases hd : kns[k].2 with
      | dot => simp [isTo]
      | bang => simp [isTo]
      | to j =>
        have := F.need k hk4 (by rw [getD_at hk4]; exact h1) ⟨j, by rw [getD_at hk4]; exact hd⟩
        simp
        omega
    · simp [h1]
  refine ev_andV (ev_eq (ev_ixL (n := 0) hy' ev_cv rfl) ev_cv rfl ?_) (fun _ => ev_andV (ev_eq (ev_ixL (n := 1) hy' ev_cv rfl) ev_cv rfl (f2 _)) (fun _ => ev_lt (a := ((kns.countP fun kn => decide (kn.2 = .to k) : Nat) : Int)) (ev_ixL (n := k) (Rs := (cntTo kns.length kns).map RI) (ev_var (v := .ref l) rfl (Rp.mono _ e4.ef hent)) (ev_is rfl) (by rw [List.getElem?_map, cntTo_get hk4]; rfl)) ev_cv rfl) rfl) hfalse
  by_cases h1 : kns[k].1 = []
  · rw [decide_eq_true h1, h1]; rfl
  · rw [decide_eq_false h1]; exact eq_str_l (by show kns[k].1 ≠ []; exact h1)
theorem lay_ints (l : List Int) : PyData.canLayAll0 (intD l) = true := by
  induction l with
  | nil => rfl
  | cons a l ih => show PyData.canLayAll0 (.int a :: intD l) = true; simp [PyData.canLayAll0, PyData.canLay0, ih]
theorem dep_ints (l : List Int) : PyData.depthAll (intD l) = 0 := W.depth_ints l
theorem shaped_ints (l : List Int) : SeqAt.shaped (.list (intD l)) = true := by
  unfold SeqAt.shaped
  rw [show (PyData.list (intD l)).canLay0 = PyData.canLayAll0 (intD l) by simp [PyData.canLay0], lay_ints, show (PyData.list (intD l)).depth = PyData.depthAll (intD l) + 1 by simp [PyData.depth], dep_ints]
  rfl
theorem eqv_ints (l : List Int) : PyData.eqv (.list (intD l)) (.list (intD l)) = true := SeqAt.eqv_refl _ (SeqAt.canLay_of_shaped (shaped_ints l))
theorem pu_shape_knots (F : KnF kns prs) : Pu0 (p_shape_knots K cS cP) [RS (shapeS kns)] (knsR K kns) := pu_1 fun v w h Q q => by
  cases h
  have hfew := F.few
  refine sq_asg (J := J0) (R := knsR K kns) (ev_if (P := (· = true)) (et_b (ev_isi (c := .ty "str") (t := .type "str") (ev_is rfl) ev_cv (.ty _) ty_str rfl)) (fun _ => ev_cl (ea_cons (ev_is rfl) ea_nil) (pu_knots_in (n := kns.length) F.ne hfew hfew F.good).pu) (fun h => nomatch h)) fun vk w1 e1 hk => ?_
  show tSeq _ _ _ [some (.str (shapeS kns)), some vk, none] w1.h
  have hv : ∀ {x2 : Option V} {w' : Wd}, Le J0 w1 w' → Ev J0 (tVar 1) [some (.str (shapeS kns)), some vk, x2] w' (knsR K kns) := fun e => ev_var (v := vk) rfl (Rp.mono _ e.ef hk)
  have hisn : Ev J0 (tIsN (tVar 1)) [some (.str (shapeS kns)), some vk, none] w1 (RB false) := fun w' e Q q => ⟨vk, rfl, q _ w' .rfl (by obtain ⟨a, xs, rfl, _⟩ := hk; rfl)⟩
  refine st_skip (J := J0) (et_or (a := false) (b := false) (et_b hisn) (fun _ => et_or (a := false) (b := false) (et_not (b := true) (et_b (ev_cl (ea_cons (hv .rfl) ea_nil) (pu_right F).pu)) rfl) (fun _ => et_b (ev_cl (ea_cons (hv .rfl) ea_nil) (pu_needless F).pu)) rfl) rfl) fun w2 e2 => ?_
  refine sq_asg (J := J0) (ev_cl (ea_cons (hv e2) ea_nil) (pu_knot_order F).pu) fun vo w3 e3 ho => ?_
  show tSeq _ _ _ [some (.str (shapeS kns)), some vk, some vo] w3.h
  have hvo : Ev J0 (tVar 2) [some (.str (shapeS kns)), some vk, some vo] w3 (LstR K ((oz (List.range kns.length)).map RI)) := ev_var (v := vo) rfl ho
  refine st_skip (J := J0) (et_or (a := false) (b := false) (et_test (ev_neD (hvo.imp fun _ _ _ => lst_ints.mp) (d := .list (intD (oz (List.range kns.length)))) (e := .list (intD (oz (List.range kns.length)))) ?_ (shaped_ints _) (shaped_ints _) (by rw [eqv_ints]; rfl)))
    (fun _ => et_test (ev_ne (a := .str (shapeS kns)) (b := .str (shapeS kns)) (ev_cl (ea_cons (hv (e2.trans e3)) (ea_cons hvo ea_nil)) (pu_shape hfew F.good).pu) (ev_is rfl) rfl (by simp))) rfl) fun w4 e4 => ?_
  · refine Ev.imp (R := LstR K ((oz (List.range kns.length)).map RI)) ?_ fun _ _ _ => lst_ints.mp
    refine fun w' e Q q => ev_lenL (J := J0) (hv (e2.trans e3)) w' e _ fun u w4 e4 hu => ⟨_, hu, RgOk.of_le (by omega) (by simp; omega) (by omega) (by simp), fun p hp => ?_⟩
    refine q (.ref p) (w4.new p _) (e4.trans (Le.new hp)) ⟨p, _, rfl, .inl (.inl new_at), allR_ints.mpr ?_⟩
    refine List.ext_getElem (by simp [rgV]) fun j h1 h2 => ?_
    simp [rgV]
  exact st_ret (J := J0) (hv ((e2.trans e3).trans e4)) fun vr wr er hr => q vr wr ((((e1.trans e2).trans e3).trans e4).trans er) hr
end
end Z
end

section -- P14
set_option Elab.async false
set_option linter.all false
set_option maxRecDepth 100000
set_option maxHeartbeats 4000000
set_option autoImplicit false
namespace Z
open PySem PySem.Spec L2 K07
open M7 (Names Cells Kn Kd koGo koAll goalAt)
section
variable {J : Addr → Prop} {σ : St} {w w0 w1 : Wd} {ta tb t te : TE} {K : PySem.W.Frag} {cS cP : Addr} {mg : PySem.Str → Option Value} {D : Ends} {sa : TS} {g g1 : TG} {i : Nat} {R : Rp} {kns : List Kn} {prs : List (Nat × Nat)}
/-- two loops in a comprehension, without tests -/
theorem en_lc2 {wi wi1 : TI} {n : Nat} {P : Nat → Rp} {n1 : Nat → Nat} {P1 : Nat → Nat → Rp} {vs vs1 : List Nat} (E : Nat → Nat → Rp) (hs : Src J wi σ w n P) (hn : n ≤ 100) (hn1 : ∀ i, i < n → n1 i ≤ 100)
    (turn : ∀ i w1, i < n → Le J w w1 → ∀ x, (P i).r w1.f x → ∀ Q : St → Hp → Prop, (∀ σ2 w2, Le J w1 w2 → wipe σ2 vs = wipe σ vs → Src J wi1 σ2 w2 (n1 i) (P1 i) →
      (∀ j w3, j < n1 i → Le J w w3 → Exf w2.f w3.f → ∀ y, (P1 i j).r w3.f y → ∀ Q' : St → Hp → Prop, (∀ σ3 w4, Le J w3 w4 → wipe σ3 vs1 = wipe σ2 vs1 → Ev J te σ3 w4 (E i j) → Q' σ3 w4.h) → g1 y (wipe σ2 vs1) w3.h Q') → Q σ2 w2.h) → g x (wipe σ vs) w1.h Q)
    (hj : ∀ D, w.h D = none → ¬ J D) : Ev J (tLc2 wi g tYes wi1 g1 tYes te vs vs1) σ w (LstR K ((List.range n).flatMap fun i => (List.range (n1 i)).map (E i))) := fun w' e' Q q => by
  refine hs w' e' _ fun Jt wb eb ok D hD => ?_
  have hDw : w.h D = none := e'.fresh (eb.fresh hD)
  have nj : ¬ J D := hj D hDw
  let L : Nat → List Rp := fun i => (List.range i).flatMap fun i => (List.range (n1 i)).map (E i)
  have Lsucc : ∀ i, L (i + 1) = L i ++ (List.range (n1 i)).map (E i) := fun i => by
    show (List.range (i + 1)).flatMap _ = _
    rw [List.range_succ, List.flatMap_append]
    simp [L]
  have Llen : ∀ i, i ≤ n → (L i).length ≤ i * 100 := by
    intro i
    induction i with
    | zero => intro _; exact Nat.le_refl _
    | succ i ih =>
      intro hi
      have := ih (by omega)
      have := hn1 i (by omega)
      rw [Lsucc, List.length_append, List.length_map, List.length_range]
      omega
  let W : Nat → Nat → Hp → Prop := fun i m H1 => m = n - i ∧ i ≤ n ∧ ∃ w1 xs, H1 = w1.h ∧ Le J wb w1 ∧ Own w1 D (.lst xs) ∧ AllR w1.f (L i) xs
  refine ⟨W, ⟨n, by simp, Nat.zero_le _, wb.put D (.lst []) (wb.fresh_f hD), [], rfl, put_le hD, Mt.own (Wd.put_mt _) (wb.fresh_f hD), trivial⟩, ?_⟩
  rintro i m H1 ⟨rfl, hi, w1, xs, rfl, l1, own, all⟩
  by_cases hlt : i < n
  · refine .inr ⟨ok.go i w1 hlt l1.ef, fun H' => W (i + 1) (n - (i + 1)) H', fun H' p => ⟨n - (i + 1), by omega, p⟩, fun x H' y => ?_⟩
    obtain ⟨w2, rfl, e2, r2⟩ := ok.yld i w1 x H' hlt l1.ef y
    refine turn i w2 hlt (((e'.trans eb).trans l1).trans e2) x r2 _ fun σ3 w3 e3 hw hs1 ht1 => ⟨hw, ?_⟩
    show wi1 σ3 w3.h _
    refine hs1 w3 .rfl _ fun J1 w4 e4 ok1 => ?_
    have l4 := ((l1.trans e2).trans e3).trans e4
    have own4 := own.le ((e2.trans e3).trans e4) nj
    have all4 := all.mono ((e2.trans e3).trans e4).ef
    let W1 : Nat → Nat → Hp → Prop := fun j k H5 => k = n1 i - j ∧ j ≤ n1 i ∧ ∃ w5 ys, H5 = w5.h ∧ Le J wb w5 ∧ Exf w4.f w5.f ∧ Own w5 D (.lst ys) ∧ AllR w5.f (L i ++ (List.range j).map (E i)) ys
    refine ⟨W1, ⟨n1 i, by simp, Nat.zero_le _, w4, xs, rfl, l4, fun _ _ h => h, own4, by simpa using all4⟩, ?_⟩
    rintro j k H5 ⟨rfl, hj5, w5, ys, rfl, l5, ef5, own5, all5⟩
    by_cases hlt2 : j < n1 i
    · refine .inr ⟨ok1.go j w5 hlt2 ef5, fun H' => W1 (j + 1) (n1 i - (j + 1)) H', fun H' p => ⟨n1 i - (j + 1), by omega, p⟩, fun y H' yy => ?_⟩
      obtain ⟨w6, rfl, e6, r6⟩ := ok1.yld j w5 y H' hlt2 ef5 yy
      have l6 := (e'.trans eb).trans (l5.trans e6)
      refine ht1 j w6 hlt2 l6 (fun p o h => e6.ef p o (ef5 p o (e4.ef p o h))) y r6 _ fun σ7 w7 e7 hw7 he7 => ⟨hw7, ?_⟩
      refine he7 w7 .rfl _ fun v w8 e8 r8 => ?_
      have own8 := own5.le ((e6.trans e7).trans e8) nj
      have l8 := ((l5.trans e6).trans e7).trans e8
      have hl := all5.len
      have hL := Llen i (by omega)
      have hn1' := hn1 i hlt
      rw [List.length_append, List.length_map, List.length_range] at hl
      have hi100 : i * 100 ≤ 100 * 100 := Nat.mul_le_mul (by omega) (Nat.le_refl _)
      refine ⟨ys, own8.h, Nat.lt_of_le_of_lt (show ys.length ≤ 20000 by omega) (by decide), rfl, hlt2, w8.put D (.lst (ys ++ [v])) own8.f, ys ++ [v], rfl, l8.mt (Wd.put_mt _) hD own8.f, fun p o h => e8.ef p o (e7.ef p o (e6.ef p o (ef5 p o h))), Mt.own (Wd.put_mt _) own8.f, ?_⟩
      rw [List.range_succ, List.map_append, ← List.append_assoc]
      exact (all5.mono fun p o h => e8.ef p o (e7.ef p o (e6.ef p o h))).snoc r8
    · have e : j = n1 i := by omega
      subst e
      refine .inl ⟨ok1.stop w5 ef5, rfl, hlt, w5, ys, rfl, l5, own5, ?_⟩
      rw [Lsucc]
      exact all5
  · have e : i = n := by omega
    subst e
    refine .inl ⟨ok.stop w1 l1.ef, q (.ref D) (w1.pub D _ own.h) ((eb.trans l1).pub (eb.fresh hD) own.h) (pub_lst own all)⟩
/-! ### plans -/
def PlaR (K : PySem.W.Frag) (cP : Addr) (kns : List Kn) (ls : List Nat) (lost : Nat) (lets : List Nat) : Rp := ⟨fun f v => ∃ a dx fs vl, v = .ref a ∧ f a = some (.ins cP dx fs) ∧ fs.lookup ("shape" : Str) = some (.str (shapeS kns)) ∧ fs.lookup ("lengths" : Str) = some vl ∧ (TupD K (intD (oz ls))).r f vl ∧
    fs.lookup ("lost" : Str) = some (.int lost) ∧ fs.lookup ("letters" : Str) = some (.str (ltr lets)), fun e ⟨a, dx, fs, vl, h1, h2, h3, h4, h5, h6, h7⟩ => ⟨a, dx, fs, vl, h1, e _ _ h2, h3, h4, Rp.mono _ e h5, h6, h7⟩⟩
variable {ls : List Nat} {lost : Nat} {lets : List Nat}
theorem ev_pshape (T : Txt K mg cS cP) (h : Ev J t σ w (PlaR K cP kns ls lost lets)) : Ev J (tFld K t "shape") σ w (RS (shapeS kns)) :=
  ev_fld T.clP T.nPlan_shape h fun f v ⟨a, dx, fs, vl, h1, h2, h3, h4, h5, h6, h7⟩ => ⟨a, dx, fs, _, h1, h2, h3, rfl⟩
theorem ev_plens (T : Txt K mg cS cP) (h : Ev J t σ w (PlaR K cP kns ls lost lets)) : Ev J (tFld K t "lengths") σ w (TupD K (intD (oz ls))) :=
  ev_fld T.clP T.nPlan_lengths h fun f v ⟨a, dx, fs, vl, h1, h2, h3, h4, h5, h6, h7⟩ => ⟨a, dx, fs, _, h1, h2, h4, h5⟩
theorem ev_plost (T : Txt K mg cS cP) (h : Ev J t σ w (PlaR K cP kns ls lost lets)) : Ev J (tFld K t "lost") σ w (RI lost) :=
  ev_fld T.clP T.nPlan_lost h fun f v ⟨a, dx, fs, vl, h1, h2, h3, h4, h5, h6, h7⟩ => ⟨a, dx, fs, _, h1, h2, h6, rfl⟩
theorem ev_plets (T : Txt K mg cS cP) (h : Ev J t σ w (PlaR K cP kns ls lost lets)) : Ev J (tFld K t "letters") σ w (RS (ltr lets)) :=
  ev_fld T.clP T.nPlan_letters h fun f v ⟨a, dx, fs, vl, h1, h2, h3, h4, h5, h6, h7⟩ => ⟨a, dx, fs, _, h1, h2, h7, rfl⟩
theorem pu_check_plan : Pu0 (p_check_plan K cS cP) [PlaR K cP kns ls lost lets] (Is .non) := pu_1 fun v w h Q q => by
  obtain ⟨a, dx, fs, vl, rfl, h2, _⟩ := h
  refine st_if (J := J0) (P := (· = false)) (et_not (b := true) (et_b ?_) rfl) (fun e => nomatch e) fun _ w1 e1 => q _ w1 e1 rfl
  exact fun w' e Q q => ⟨.ref a, rfl, a, dx, fs, rfl, w'.ok _ _ (e.ef _ _ h2), q _ w' .rfl rfl⟩
theorem ev_sumA {l : List Int} (ha : Ev J ta σ w (TupD K (intD l))) : Ev J (tCB (rSumA K) (tCons ta tNil)) σ w (RI l.sum) := fun w' e Q q => ha w' e _ fun v w1 e1 h => by
  obtain ⟨a, xs, h1, h2, h3⟩ := tup_ints.mpr (TupD.dat h)
  have := allR_ints.mp h3
  subst this
  exact ⟨a, l, by rw [h1], sqT_h w1 h2, q _ w1 e1 rfl⟩
theorem pu_size (T : Txt K mg cS cP) : Pu0 (p_Plan_size K cS cP) [PlaR K cP kns ls lost lets] (RI ((oz ls).sum + lost)) := pu_1 fun v w h Q q => by
  have hv : Ev J0 (tVar 0) [some v] w (PlaR K cP kns ls lost lets) := ev_var (v := v) rfl h
  exact st_ret (J := J0) (ev_add (ev_sumA (ev_plens T hv)) (ev_plost T hv)) q
def lensS (ls : List Nat) : Str := if ls = [] then "none" else PySem.Txt.join " " (ls.map numS)
def ptext (kns : List Kn) (ls : List Nat) (lost : Nat) : Str := shapeS kns ++ " | " ++ lensS ls ++ " | " ++ numS lost
theorem ev_num {a : Nat} (ha : Ev J ta σ w (RI a)) (hz : a < 10 ^ 10) : Ev J (tCB rStrI (tCons ta tNil)) σ w (RS (numS a)) := ev_strI ha (by
  have e : ((a : Nat) : Int).natAbs = a := by omega
  rw [e]
  have h1 : a < 2 ^ 40 := Nat.lt_trans hz (by decide)
  by_cases h0 : a = 0
  · rw [h0]; decide
  · have := (Nat.log2_lt h0).mpr h1
    omega)
theorem nums_fits (hl : ls.length ≤ 100) (hb : ∀ l ∈ ls, l < 10 ^ 10) : ((ls.map numS).map (·.length)).sum + (ls.map numS).length * (" " : Str).length ≤ 16777216 := by
  have h2 : ((ls.map numS).map (·.length)).sum ≤ (ls.map numS).length * 10 := StrLaws.sumLen_le _ fun y hy => by
    obtain ⟨k, hk, rfl⟩ := List.mem_map.mp hy
    exact num_len (hb k hk)
  have h4 : (" " : Str).length = 1 := rfl
  rw [h4]
  rw [List.length_map] at h2 ⊢
  omega
theorem join_len_le (ys : List Str) (B : Nat) (h : ∀ y ∈ ys, y.length ≤ B) : (PySem.Txt.join " " ys).length ≤ ys.length * (B + 1) := by
  have h1 := StrLaws.join_length_le " " ys
  rw [← StrLaws.glued_eq_join] at h1
  have h2 : (ys.map (·.length)).sum ≤ ys.length * B := StrLaws.sumLen_le _ h
  have h4 : (" " : Str).length = 1 := rfl
  rw [h4] at h1
  have h5 : (PySem.Txt.join " " ys).length ≤ _ := h1
  rw [Nat.mul_add]
  omega
theorem shape_len (F : KnF kns prs) : (shapeS kns).length ≤ 4000 := by
  have := join_len_le (kns.map wordS) 30 fun y hy => by
    obtain ⟨kn, hk, rfl⟩ := List.mem_map.mp hy
    exact word_len (F.good kn hk) F.few
  have h2 := F.few
  rw [List.length_map] at this
  unfold shapeS
  omega
theorem nums_len (hl : ls.length ≤ 100) (hb : ∀ l ∈ ls, l < 10 ^ 10) : (PySem.Txt.join " " (ls.map numS)).length ≤ 2000 := by
  have := join_len_le (ls.map numS) 10 fun y hy => by
    obtain ⟨k, hk, rfl⟩ := List.mem_map.mp hy
    exact num_len (hb k hk)
  rw [List.length_map] at this
  omega
theorem nums_empty {ls : List Nat} : decide (V.str (PySem.Txt.join " " (ls.map numS)) = V.str "") = decide (ls = []) := by
  cases ls with
  | nil => rfl
  | cons a ls =>
    rw [decide_eq_false (by simp : ¬ (a :: ls = []))]
    refine eq_str_l ?_
    have e : PySem.Txt.join " " ((a :: ls).map numS) = Str.join " " ((a :: ls).map numS) := StrLaws.glued_eq_join _ _
    rw [e]
    have h0 := num_ne a
    unfold numL at h0
    intro h
    have h1 : (Str.join " " ((a :: ls).map numS)).cps.toList = jn 32 (((a :: ls).map numS).map (·.cps.toList)) := join_cps 32 _
    rw [h1] at h
    cases ls with
    | nil => exact h0 h
    | cons b ls =>
      have h2 : (numS a).cps.toList ++ 32 :: jn 32 (((b :: ls).map numS).map (·.cps.toList)) = [] := h
      simp at h2
theorem pu_text (T : Txt K mg cS cP) (F : KnF kns prs) (hl : ls.length ≤ 100) (hb : ∀ l ∈ ls, l < 10 ^ 10) (h0 : lost < 10 ^ 10) : Pu0 (p_Plan_text K cS cP) [PlaR K cP kns ls lost lets] (RS (ptext kns ls lost)) := pu_1 fun v w h Q q => by
  have hv : ∀ {x y : Option V} {w' : Wd}, Le J0 w w' → Ev J0 (tVar 0) [some v, x, y] w' (PlaR K cP kns ls lost lets) := fun e => ev_var (v := v) rfl (Rp.mono _ e.ef h)
  have hS := shape_len F
  have hN := nums_len hl hb
  refine sq_asg (J := J0) (R := RS (PySem.Txt.join " " (ls.map numS))) (ev_joinR ev_cv ?_ (nums_fits hl hb)) fun v1 w1 e1 h1 => ?_
  · have hs := src_tup (J := J0) (σ := [some v, none, none]) (w := w) ((ev_plens T (hv .rfl)).imp fun _ _ _ r => tup_ints.mpr (TupD.dat r))
    have e2 : ((oz ls).map RI).length = ls.length := by simp
    rw [e2] at hs
    have key : keptR ls.length (fun _ => true) (fun k => ((ls.map numS).map RS).getD k (Is .non)) = (ls.map numS).map RS := by
      rw [keptR_all]
      refine List.ext_getElem (by simp) fun k h1 h2 => ?_
      have hk : k < ls.length := by simpa using h1
      simp [List.getD_eq_getElem?_getD, hk]
    rw [← key]
    refine en_lstR (ev_lc1 _ _ hs (by omega) (fun k w1 hk e1 x hx => ⟨et_yes, fun _ => ?_⟩) fun _ _ => id)
    have e3 : ((oz ls).map RI).getD k (Is .non) = RI ls[k] := by simp [List.getD_eq_getElem?_getD, hk]
    have e4 : ((ls.map numS).map RS).getD k (Is .non) = RS (numS ls[k]) := by simp [List.getD_eq_getElem?_getD, hk]
    rw [e3] at hx
    rw [e4]
    exact ev_num (ev_var (v := x) rfl hx) (hb _ (List.getElem_mem hk))
  cases h1
  show tRet _ _ [some v, some (.str (PySem.Txt.join " " (ls.map numS))), none] w1.h
  have h3 : (" | " : Str).length = 3 := by decide +kernel
  have h4 : ("none" : Str).length = 4 := by decide +kernel
  have hlS : (lensS ls).length ≤ 2000 := by
    unfold lensS
    split
    · rw [h4]; omega
    · exact hN
  have hnl := num_len h0
  have big : ∀ n, n ≤ 100000 → n ≤ sizeLine := fun n h => Nat.le_trans h (by decide)
  refine st_ret (J := J0) (R := RS (ptext kns ls lost)) ?_ fun vr wr er hr => q vr wr (e1.trans er) hr
  refine ev_addS (ev_addS (ev_addS (ev_addS (ev_pshape T (hv e1)) ev_cv (big _ (by omega))) (b := lensS ls) (ev_if (P := (· = !decide (ls = []))) (et_test (ev_ne (ev_is rfl) ev_cv rfl (by rw [nums_empty]))) (fun hb => ?_) (fun hb => ?_)) (big _ (by rw [app_len]; omega))) ev_cv (big _ (by simp only [app_len]; omega))) (ev_num (ev_plost T (hv e1)) h0) (big _ (by simp only [app_len]; omega))
  · have hz : ¬ ls = [] := fun z => by rw [z] at hb; simp at hb
    unfold lensS
    rw [if_neg hz]
    exact ev_is rfl
  · have hz : ls = [] := by
      by_cases z : ls = []
      · exact z
      · rw [decide_eq_false z] at hb; cases hb
    unfold lensS
    rw [if_pos hz]
    exact ev_cv
end
end Z
end

section -- M8
set_option linter.all false
set_option maxRecDepth 100000
set_option maxHeartbeats 4000000
set_option autoImplicit false
namespace Z
open PySem L2 K07
open M7 (Names Cells Kn Kd koGo koAll goalAt arr headsOf comeOf knotK knotL foundOf strOf knsOf lenOf lostOf cellKnots lettersAt knOf)
section
variable {ns : Names} {cs : Cells}
def prsOf (ns : Names) (cs : Cells) : List (Nat × Nat) := ns.map fun q => (q.1, (foundOf ns cs).idxOf q.2)
theorem kns_len (ns : Names) (cs : Cells) : (knsOf ns cs).length = (foundOf ns cs).length := by simp [knsOf]
theorem kns_get {i : Nat} (h : i < (foundOf ns cs).length) : (knsOf ns cs).getD i ([], .dot) = knOf (arr cs) ns (foundOf ns cs) (strOf ns cs) (foundOf ns cs)[i] := by
  simp [knsOf, List.getD_eq_getElem?_getD, h]
theorem let_at {c : Nat} {p : Int} : c ∈ lettersAt ns p ↔ (c, p) ∈ ns := by
  unfold lettersAt
  constructor
  · intro h
    obtain ⟨q, hq, rfl⟩ := List.mem_map.mp h
    have := List.mem_filter.mp hq
    have e : q.2 = p := by simpa using this.2
    subst e
    exact this.1
  · intro h
    exact List.mem_map.mpr ⟨(c, p), List.mem_filter.mpr ⟨h, by simp⟩, rfl⟩
theorem knf_of (vn : VN ns) (vc : VC cs) : KnF (knsOf ns cs) (prsOf ns cs) := by
  have W := M7.whole ns cs
  have hff := found_few vc vn
  have hheads : ∀ p ∈ headsOf ns, p ∈ foundOf ns cs := fun p hp => (M7.found_mem ns cs p).mpr ⟨M7.Reached.head hp, M7.L_head hp⟩
  have hname : ∀ q ∈ ns, q.2 ∈ foundOf ns cs := fun q hq => hheads _ (List.mem_map.mpr ⟨q, hq, rfl⟩)
  refine ⟨?_, ?_, ?_, ?_, ?_, ?_, ?_, ?_, ?_, ?_⟩
  · intro kn hk
    obtain ⟨p, hp, rfl⟩ := List.mem_map.mp hk
    refine ⟨fun c hc => vn.let_ _ (let_at.mp hc), ?_, fun k hd => ?_⟩
    · show (lettersAt ns p).Pairwise _
      unfold lettersAt
      rw [List.pairwise_map]
      exact vn.asc.sublist List.filter_sublist
    · rw [kns_len]
      unfold knOf at hd
      cases hb : arr cs p with
      | none => rw [hb] at hd; simp at hd; split at hd <;> cases hd
      | some b =>
        rw [hb] at hd
        simp at hd
        rw [← hd]
        exact List.idxOf_lt_length_iff.mpr (W.goal hp hb)
  · rw [kns_len]; omega
  · intro e
    have h1 := vn.one
    cases hn : ns with
    | nil => rw [hn] at h1; simp at h1
    | cons q r =>
      have := hname q (by rw [hn]; simp)
      have h2 := kns_len ns cs
      rw [e] at h2
      rw [List.eq_nil_of_length_eq_zero h2.symm] at this
      cases this
  · unfold prsOf
    rw [List.pairwise_map]
    exact vn.asc
  · unfold prsOf; rw [List.length_map]; exact vn.one
  · unfold prsOf; rw [List.length_map]; exact vn.four
  · intro c i
    rw [kns_len]
    constructor
    · intro h
      obtain ⟨q, hq, e⟩ := List.mem_map.mp h
      cases e
      have hlt := List.idxOf_lt_length_iff.mpr (hname q hq)
      refine ⟨hlt, ?_⟩
      rw [kns_get hlt]
      show q.1 ∈ lettersAt ns _
      rw [List.getElem_idxOf, let_at]
      exact hq
    · rintro ⟨hi, hc⟩
      rw [kns_get hi] at hc
      have hc := let_at.mp (show c ∈ lettersAt ns _ from hc)
      refine List.mem_map.mpr ⟨_, hc, ?_⟩
      have e : (foundOf ns cs).idxOf (foundOf ns cs)[i] = i := by
        have h2 := List.getElem_idxOf (List.idxOf_lt_length_iff.mpr (List.getElem_mem hi))
        exact (List.getElem_inj W.nodup).mp h2
      simp only [e]
  · have hfew := vc.few
    refine ⟨cs.length + 2, by omega, ?_⟩
    have h1 := M7.chAll_of_ord W (K := knotK ns cs) (fun y hy => M7.isK_eq W.C hy) (headsOf ns) [] (fun _ h => h) (fun y hy => nomatch hy) (found_ord ns cs)
    have h2 := M7.koAll_of_ch W (names := ns) (headsOf ns) [] hheads (fun y hy => nomatch hy) h1
    have e1 : (prsOf ns cs).map (·.2) = (headsOf ns).map (foundOf ns cs).idxOf := by
      unfold prsOf headsOf
      rw [List.map_map, List.map_map]
      rfl
    rw [e1, kns_len, ← M7.idx_range W.nodup]
    exact h2
  · intro i hi h1 h2
    rw [kns_len] at hi
    rw [kns_get hi] at h1 h2
    obtain ⟨k, hk⟩ := h2
    have hz : (foundOf ns cs)[i] ∈ foundOf ns cs := List.getElem_mem hi
    cases hb : arr cs (foundOf ns cs)[i] with
    | none => unfold knOf at hk; rw [hb] at hk; simp at hk; split at hk <;> cases hk
    | some b =>
      have hh : (foundOf ns cs)[i] ∉ headsOf ns := fun hm => by
        obtain ⟨q, hq, e⟩ := List.mem_map.mp hm
        have : q.1 ∈ lettersAt ns (foundOf ns cs)[i] := let_at.mpr (by rw [← e]; exact hq)
        rw [show lettersAt ns (foundOf ns cs)[i] = [] from h1] at this
        cases this
      obtain ⟨a, c, hne, ha, hc, ea, ec⟩ := W.two hz hb hh
      obtain ⟨ha1, ba, hba⟩ := M7.mem_cellKnots.mp ha
      obtain ⟨hc1, bc, hbc⟩ := M7.mem_cellKnots.mp hc
      have hidx : (foundOf ns cs).idxOf (foundOf ns cs)[i] = i := by
        have h2 := List.getElem_idxOf (List.idxOf_lt_length_iff.mpr (List.getElem_mem hi))
        exact (List.getElem_inj W.nodup).mp h2
      have key : ∀ x b, arr cs x = some b → (strOf ns cs x).2 = (foundOf ns cs)[i] → (knOf (arr cs) ns (foundOf ns cs) (strOf ns cs) x).2 = .to i := fun x b hb e => by
        unfold knOf
        simp [hb, e, hidx]
      unfold knsOf
      rw [List.countP_map]
      have hperm := List.perm_cons_erase ha1
      rw [hperm.countP_eq, List.countP_cons_of_pos (by simp [key a ba hba ea])]
      have hc2 : c ∈ (foundOf ns cs).erase a := (List.mem_erase_of_ne hne.symm).mpr hc1
      have := (List.countP_pos_iff (p := (fun kn => decide (kn.2 = Kd.to i)) ∘ knOf (arr cs) ns (foundOf ns cs) (strOf ns cs))).mpr ⟨c, hc2, by simp [key c bc hbc ec]⟩
      omega
  · unfold knsOf
    rw [List.countP_map]
    have h1 : List.countP ((fun kn : Kn => decide (kn.2 = Kd.dot)) ∘ knOf (arr cs) ns (foundOf ns cs) (strOf ns cs)) (foundOf ns cs) ≤ (foundOf ns cs).countP fun x => x == 0 := by
      refine List.countP_mono_left fun x _ h => ?_
      have h : (knOf (arr cs) ns (foundOf ns cs) (strOf ns cs) x).2 = .dot := by simpa using h
      unfold knOf at h
      cases hb : arr cs x with
      | some b => rw [hb] at h; simp at h
      | none =>
        rw [hb] at h
        by_cases e : x = 0
        · simpa using e
        · simp [e] at h
    have h2 : (foundOf ns cs).countP (fun x => x == 0) ≤ 1 := List.nodup_iff_count.mp W.nodup 0
    omega
theorem len_sum (ns : Names) (cs : Cells) : (oz (lenOf ns cs)).sum = ((comeOf ns cs).length : Int) := by
  have h := (M7.whole ns cs).sum
  have e : (lenOf ns cs).sum = (comeOf ns cs).length := h
  rw [← e]
  generalize lenOf ns cs = l
  induction l with
  | nil => rfl
  | cons a l ih => simp [oz] at ih ⊢; omega
theorem lens_pos {l : Nat} (h : l ∈ lenOf ns cs) : 1 ≤ l ∧ l ≤ cs.length := by
  obtain ⟨k, hk, rfl⟩ := List.mem_map.mp h
  obtain ⟨h1, b, hb⟩ := M7.mem_cellKnots.mp hk
  obtain ⟨l, e, _, h2, h3⟩ := M7.str_all ns cs h1 hb
  have : strOf ns cs k = (k :: l, e) := by
    have := str_some ns cs h1 hb
    rw [h3] at this
    exact (Option.some.inj this).symm
  rw [this]
  simp
  omega
theorem lens_many (ns : Names) (cs : Cells) : (lenOf ns cs).length = ((knsOf ns cs).filter fun kn => isTo kn.2).length := by
  unfold lenOf M7.lensOf knsOf cellKnots
  rw [List.length_map, List.filter_map, List.length_map]
  congr 1
  refine List.filter_congr fun x _ => ?_
  simp only [Function.comp, knOf]
  cases arr cs x with
  | none =>
    by_cases e : x = 0
    · simp [e, isTo]
    · simp [e, isTo]
  | some b => rfl
end
end Z
end

section -- P15
set_option Elab.async false
set_option linter.all false
set_option maxRecDepth 100000
set_option maxHeartbeats 4000000
set_option autoImplicit false
namespace Z
open PySem PySem.Spec L2 K07
open M7 (Names Cells Kn Kd koGo koAll goalAt arr headsOf comeOf knotK knotL foundOf strOf knsOf lenOf lostOf cellKnots lettersAt knOf)
section
variable {J : Addr → Prop} {σ : St} {w w0 w1 : Wd} {ta tb t te : TE} {ts : TA} {K : PySem.W.Frag} {cS cP : Addr} {mg : PySem.Str → Option Value} {D : Ends} {sa : TS} {g g1 : TG} {i : Nat} {R : Rp} {kns : List Kn} {prs : List (Nat × Nat)} {ns : Names} {cs : Cells} {ls : List Nat} {lost : Nat} {lets : List Nat}
theorem ev_pla (T : Txt K mg cS cP) (F : KnF kns prs) (hl : ls.length = (kns.filter fun kn => isTo kn.2).length) (h1 : ∀ l ∈ ls, 1 ≤ l ∧ l < 10 ^ 10) (h0 : lost < 10 ^ 10) (h : EvA J ts σ w [RS (shapeS kns), TupD K (intD (oz ls)), RI lost]) :
    Ev J (tMake cP (p_Plan_init K cS cP) [] E0 ts) σ w (PlaR K cP kns ls lost (prs.map (·.1))) := fun w' e Q q => h w' e _ fun vs w1 e1 a x dx hx hdx hne => by
  have hfew := F.few
  obtain ⟨v1, ws, rfl, a1, a⟩ := a.cons_inv
  obtain ⟨v2, ws, rfl, a2, a⟩ := a.cons_inv
  obtain ⟨v3, ws, rfl, a3, a⟩ := a.cons_inv
  cases a.nil_inv
  cases a1
  cases a3
  let wa := w1.put dx (.own x) (w1.fresh_f hdx)
  have hxa : wa.f x = none := w1.fresh_f hx
  let wb := wa.put x (.ins cP dx []) hxa
  have la : Le J0 w1 wa := put_le hdx
  have lb : Le J0 w1 wb := la.mt (Wd.put_mt _) hx hxa
  have own : Own wb x (.ins cP dx []) := Mt.own (Wd.put_mt _) hxa
  have nj : ¬ J0 x := id
  refine ⟨rfl, ?_⟩
  have n2 : (TupR K ((oz ls).map RI)).r w1.f v2 := tup_ints.mpr (TupD.dat a2)
  have hv2 : ∀ {x0 x1 x3 x4 x5 x6 x7 x8 : Option V} {w2 : Wd}, Le J0 w1 w2 → Ev J0 (tVar 2) [x0, x1, some v2, x3, x4, x5, x6, x7, x8] w2 (TupR K ((oz ls).map RI)) := fun e => ev_var (v := v2) rfl (Rp.mono _ e.ef n2)
  show tSeq _ _ _ [some (.ref x), some (.str (shapeS kns)), some v2, some (.int lost), none, none, none, none, none] wb.h
  refine sq_asg (J := J0) (ev_cl (ea_cons (ev_is (v := .str (shapeS kns)) rfl) ea_nil) (pu_shape_knots F).pu) fun vk w2 e2 hk => ?_
  have hvk : ∀ {x5 x6 x7 x8 : Option V} {w3 : Wd}, Le J0 w2 w3 → Ev J0 (tVar 4) [some (.ref x), some (.str (shapeS kns)), some v2, some (.int lost), some vk, x5, x6, x7, x8] w3 (knsR K kns) := fun e => ev_var (v := vk) rfl (Rp.mono _ e.ef hk)
  show tSeq _ _ _ [some (.ref x), some (.str (shapeS kns)), some v2, some (.int lost), some vk, none, none, none, none] w2.h
  have hisn : Ev J0 (tIsN (tVar 4)) [some (.ref x), some (.str (shapeS kns)), some v2, some (.int lost), some vk, none, none, none, none] w2 (RB false) := fun w' e Q q => ⟨vk, rfl, q _ w' .rfl (by obtain ⟨a, xs, rfl, _⟩ := hk; rfl)⟩
  refine st_skip (J := J0) (et_b hisn) fun w3 e3 => ?_
  refine sq_asg (J := J0) (R := RI ls.length) (Ev.of (ev_lenL (Rs := (kns.filter fun kn => isTo kn.2).map (knR K)) ?_) (by rw [List.length_map, hl])) fun v4 w4 e4 h4 => ?_
  · exact ev_lcIf (hvk e3) (by omega) (fun kn hkn w5 e5 y hy => ⟨et_test (ev_eq (a := .str (sgnS kn.2)) (ev_ixL (n := 1) (Rs := [RS (ltr kn.1), RS (sgnS kn.2), goalR kn.2]) (ev_var (v := y) rfl hy) ev_cv rfl) ev_cv rfl (f2 kn.2)), fun _ => ev_var (v := y) rfl hy⟩) fun _ _ => id
  cases h4
  have l4 := (((lb.trans e2).trans e3).trans e4)
  have lks := (e3.trans e4)
  show tSeq _ _ _ [some (.ref x), some (.str (shapeS kns)), some v2, some (.int lost), some vk, some (.int ls.length), none, none, none] w4.h
  have hlen2 : ∀ {x6 x7 x8 : Option V} {w3 : Wd}, Le J0 w1 w3 → Ev J0 (tCB (rLenQ K) (tCons (tVar 2) tNil)) [some (.ref x), some (.str (shapeS kns)), some v2, some (.int lost), some vk, some (.int ls.length), x6, x7, x8] w3 (RI ls.length) := fun e => (ev_lenT (hv2 e)).of (by simp)
  refine st_skip (J := J0) (et_or (a := false) (b := false) (et_not (b := true) (et_b (ev_isi (c := .ty "tuple") (t := .type "tuple") (hv2 l4) ev_cv (.ty _) ty_tup rfl)) rfl) (fun _ => et_test (ev_ne (hlen2 l4) (ev_is rfl) rfl (by simp))) rfl) fun w5 e5 => ?_
  have l5 := l4.trans e5
  refine st_skip (J := J0) (et_not (b := true) (et_b (ev_all (bs := (List.range ls.length).map fun _ => true) ?_ (by simp))) rfl) fun w6 e6 => ?_
  · rw [List.map_map, ← keptR_all]
    have hs := src_tup (J := J0) (hv2 (x0 := some (.ref x)) (x1 := some (.str (shapeS kns))) (x3 := some (.int lost)) (x4 := some vk) (x5 := some (.int ls.length)) (x6 := none) (x7 := none) (x8 := none) l5)
    have e0 : ((oz ls).map RI).length = ls.length := by simp
    rw [e0] at hs
    refine en_lstR (ev_lc1 _ _ hs (by rw [hl]; exact Nat.le_trans (List.length_filter_le _ _) (by omega)) (fun k w7 hk7 e7 y hy => ⟨et_yes, fun _ => ?_⟩) fun _ _ => id)
    have e3 : ((oz ls).map RI).getD k (Is .non) = RI ls[k] := by simp [List.getD_eq_getElem?_getD, hk7]
    rw [e3] at hy
    have hb := h1 _ (List.getElem_mem hk7)
    refine (ev_cl (ea_cons (ev_var (v := y) rfl hy) (ea_cons ev_cv (ea_cons ev_cv ea_nil))) (pu_is_between K cS cP ls[k] 1 1000000000000000000000000000000).pu).of ?_
    have : (decide ((1 : Int) ≤ (ls[k] : Int)) && decide ((ls[k] : Int) ≤ 1000000000000000000000000000000)) = true := by simp; omega
    rw [this]
    rfl
  refine st_skip (J := J0) (et_not (b := true) (et_b ((ev_cl (ea_cons (ev_is (v := .int lost) rfl) (ea_cons ev_cv (ea_cons ev_cv ea_nil))) (pu_is_between K cS cP lost 0 1000000000000000000000000000000).pu).of (by
    have : (decide ((0 : Int) ≤ (lost : Int)) && decide ((lost : Int) ≤ 1000000000000000000000000000000)) = true := by simp; omega
    rw [this]))) rfl) fun w7 e7 => ?_
  have o7 := (((((own.le0 e2).le0 e3).le0 e4).le0 e5).le0 e6).le0 e7
  have l7 := (l5.trans e6).trans e7
  refine st_fld (J := J0) T.clP T.nPlan_shape o7 nj rfl (by decide) (ev_is (v := .str (shapeS kns)) rfl) fun u8 w8 w9 e8 h8 m9 => ?_
  cases h8
  have o9 := m9.own (o7.le e8 nj).f
  have l9 := (l7.trans e8).mt m9 hx (o7.le e8 nj).f
  refine st_fld (J := J0) T.clP T.nPlan_lengths o9 nj rfl (Nat.lt_of_le_of_lt (putF_k (Nat.le_refl 0)) (by decide)) (ev_var (R := TupD K (intD (oz ls))) (v := v2) rfl (Rp.mono _ l9.ef a2)) fun u10 w10 w11 e10 h10 m11 => ?_
  have o11 := m11.own (o9.le e10 nj).f
  have l11 := (l9.trans e10).mt m11 hx (o9.le e10 nj).f
  have r11 : (TupD K (intD (oz ls))).r w11.f u10 := Rp.mono _ m11.ef h10
  refine st_fld (J := J0) T.clP T.nPlan_lost o11 nj rfl (Nat.lt_of_le_of_lt (putF_k (putF_k (Nat.le_refl 0))) (by decide)) (ev_is (v := .int lost) rfl) fun u12 w12 w13 e12 h12 m13 => ?_
  cases h12
  have o13 := m13.own (o11.le e12 nj).f
  have l13 := (l11.trans e12).mt m13 hx (o11.le e12 nj).f
  have ef1113 : Exf w11.f w13.f := fun p o h => m13.ef p o (e12.ef p o h)
  have ef213 : Exf w2.f w13.f := fun p o h => ef1113 p o (m11.ef p o (e10.ef p o (m9.ef p o (e8.ef p o (e7.ef p o (e6.ef p o (e5.ef p o (e4.ef p o (e3.ef p o h)))))))))
  obtain ⟨f1, f2', f3, f4'⟩ := F.flat
  have hperm : (prs.map (·.1)).Perm (kns.flatMap (·.1)) := by
    have h := (F.perm.map (·.1)).symm
    rwa [flat_eq] at h
  have hlets : EvA J0 tNil [] w13 [] := ea_nil
  refine st_fld (J := J0) (R := RS (ltr (prs.map (·.1)))) T.clP T.nPlan_letters o13 nj rfl (Nat.lt_of_le_of_lt (putF_k (putF_k (putF_k (Nat.le_refl 0)))) (by decide)) (Ev.of (ev_joinR (K := K) (ys := (prs.map (·.1)).map chr) ev_cv (ev_sortedL (ls := kns.flatMap (·.1)) ?_ (by omega) (List.pairwise_map.mpr F.asc) hperm) (by rw [chr_sum]; have := F.four; show _ + _ * 0 ≤ _; simp; omega)) (by rw [join_chr])) fun u14 w14 w15 e14 h14 m15 => ?_
  · have key : ((List.range kns.length).flatMap fun i => (List.range (kns.getD i ([], .dot)).1.length).map fun j => RS (chr ((kns.getD i ([], .dot)).1.getD j 0))) = ((kns.flatMap (·.1)).map chr).map RS := by
      have h1 : ∀ l : List Nat, (List.range l.length).map (fun j => RS (chr (l.getD j 0))) = (l.map chr).map RS := fun l => by
        refine List.ext_getElem (by simp) fun j h1 h2 => ?_
        have hj : j < l.length := by simpa using h1
        simp [List.getD_eq_getElem?_getD, hj]
      have h2 : ∀ n, n ≤ kns.length → ((List.range n).flatMap fun i => (List.range (kns.getD i ([], .dot)).1.length).map fun j => RS (chr ((kns.getD i ([], .dot)).1.getD j 0))) = (((kns.take n).flatMap (·.1)).map chr).map RS := by
        intro n
        induction n with
        | zero => intro _; rfl
        | succ n ih =>
          intro hn
          have hn' : n < kns.length := by omega
          rw [List.range_succ, List.flatMap_append, ih (by omega), List.take_succ_eq_append_getElem hn', List.flatMap_append, List.map_append, List.map_append]
          congr 1
          simp only [List.flatMap_cons, List.flatMap_nil, List.append_nil]
          rw [h1, getD_at hn']
      have := h2 kns.length (Nat.le_refl _)
      rwa [List.take_length] at this
    rw [← key]
    have hvk13 : Ev J0 (tVar 4) [some (.ref x), some (.str (shapeS kns)), some v2, some (.int lost), some vk, some (.int ls.length), none, none, none] w13 (LstR K (kns.map (knR K))) := ev_var (v := vk) rfl ((knsR K kns).mono ef213 hk)
    have hs := src_list hvk13
    rw [List.length_map] at hs
    refine en_lc2 (fun i j => RS (chr ((kns.getD i ([], .dot)).1.getD j 0))) hs hfew (n1 := fun i => (kns.getD i ([], .dot)).1.length) (P1 := fun i j => Some Nat (fun c => (ltr (kns.getD i ([], .dot)).1).cps[j]? = some c) fun c => RS ⟨#[c]⟩) (fun i hi => ?_) (fun i w14 hi e14 y hy Q' hQ' => ?_) fun _ _ => id
    · rw [getD_at hi]
      have := goodL (F.good _ (List.getElem_mem hi)) hfew
      omega
    · rw [getD_map hi] at hy
      simp only [getD_at hi] at hQ'
      have hstr : Ev J0 (tOp (rIxL K) (tVar 6) (tC (.int 0))) [some (.ref x), some (.str (shapeS kns)), some v2, some (.int lost), some vk, some (.int ls.length), some y, none, none] w14 (RS (ltr kns[i].1)) := ev_ixL (n := 0) (Rs := [RS (ltr kns[i].1), RS (sgnS kns[i].2), goalR kns[i].2]) (ev_var (v := y) rfl hy) ev_cv rfl
      have hsz : (ltr kns[i].1).cps.size = kns[i].1.length := by show kns[i].1.toArray.size = _; simp
      have hs2 := src_str hstr
      rw [hsz] at hs2
      refine hQ' _ w14 .rfl rfl hs2 fun j w15 hj e15 ef15 z ⟨c, hc, hz⟩ Q2 hQ2 => hQ2 _ w15 .rfl rfl ?_
      have hcc : kns[i].1.getD j 0 = c := by
        have : (ltr kns[i].1).cps[j]? = kns[i].1[j]? := by show kns[i].1.toArray[j]? = _; simp
        rw [this] at hc
        rw [List.getD_eq_getElem?_getD, hc]
        rfl
      rw [hcc]
      exact ev_var (v := z) rfl hz
  cases h14
  have o15 := m15.own (o13.le e14 nj).f
  have l15 := (l13.trans e14).mt m15 hx (o13.le e14 nj).f
  have ef1115 : Exf w11.f w15.f := fun p o h => m15.ef p o (e14.ef p o (ef1113 p o h))
  have lp : Le J0 w1 (w15.pub x _ o15.h) := l15.pub hx o15.h
  have efp : Exf w15.f (w15.pub x _ o15.h).f := pub_ef o15.h o15.f
  exact ⟨rfl, q (.ref x) (w15.pub x _ o15.h) (e1.trans lp.any) ⟨x, dx, _, u10, rfl, pub_at o15.h, rfl, rfl, (TupD K _).mono (fun p o h => efp p o (ef1115 p o h)) r11, rfl, rfl⟩⟩
end
end Z
end

section -- P16
set_option Elab.async false
set_option linter.all false
set_option maxRecDepth 100000
set_option maxHeartbeats 4000000
set_option autoImplicit false
namespace Z
open PySem PySem.Spec L2 K07
open M7 (Names Cells Kn Kd koGo koAll goalAt arr headsOf comeOf knotK knotL foundOf strOf knsOf lenOf lostOf cellKnots lettersAt knOf)
section
variable {J : Addr → Prop} {σ : St} {w w0 w1 : Wd} {ta tb t te : TE} {ts : TA} {K : PySem.W.Frag} {cS cP : Addr} {mg : PySem.Str → Option Value} {D : Ends} {sa : TS} {g g1 : TG} {i : Nat} {R : Rp} {kns kns' : List Kn} {prs : List (Nat × Nat)} {ns : Names} {cs : Cells} {ls ls' : List Nat} {lost lost' : Nat} {lets lets' : List Nat}
theorem eqv_ints2 : ∀ a b : List Int, PyData.eqvAll (intD a) (intD b) = decide (a = b)
  | [], [] => rfl
  | [], b :: bs => by show PyData.eqvAll [] (.int b :: intD bs) = _; simp [PyData.eqvAll]
  | a :: as, [] => by show PyData.eqvAll (.int a :: intD as) [] = _; simp [PyData.eqvAll]
  | a :: as, b :: bs => by
    show PyData.eqvAll (.int a :: intD as) (.int b :: intD bs) = _
    rw [PyData.eqvAll, eqv_ints2 as bs, PyData.eqv]
    by_cases h : a = b
    · subst h; simp
    · simp [h]
theorem oz_inj {a b : List Nat} : oz a = oz b ↔ a = b := ⟨fun h => (List.map_inj_right (fun x y h => by omega)).mp h, fun h => by rw [h]⟩
theorem shaped_tup (l : List Int) : SeqAt.shaped (.tuple (intD l)) = true := by
  unfold SeqAt.shaped
  rw [show (PyData.tuple (intD l)).canLay0 = PyData.canLayAll0 (intD l) by simp [PyData.canLay0], lay_ints, show (PyData.tuple (intD l)).depth = PyData.depthAll (intD l) + 1 by simp [PyData.depth], dep_ints]
  rfl
/-- both plans are the same -/
def sameB (kns kns' : List Kn) (ls ls' : List Nat) (lost lost' : Nat) : Bool := decide (shapeS kns = shapeS kns') && (decide (ls = ls') && decide (lost = lost'))
theorem pu_eq (T : Txt K mg cS cP) : Pu0 (p_Plan_eq K cS cP) [PlaR K cP kns ls lost lets, PlaR K cP kns' ls' lost' lets'] (RB (sameB kns kns' ls ls' lost lost')) := pu_2 fun v u w h hu Q q => by
  refine st_skip (J := J0) (et_not (b := true) (et_b ?_) rfl) fun w1 e1 => ?_
  · obtain ⟨a, dx, fs, vl, rfl, h2, _⟩ := hu
    exact fun w' e Q q => ⟨.ref a, rfl, a, dx, fs, rfl, w'.ok _ _ (e.ef _ _ h2), q _ w' .rfl rfl⟩
  have h0 : Ev J0 (tVar 0) [some v, some u] w1 (PlaR K cP kns ls lost lets) := ev_var (v := v) rfl (Rp.mono _ e1.ef h)
  have h1 : Ev J0 (tVar 1) [some v, some u] w1 (PlaR K cP kns' ls' lost' lets') := ev_var (v := u) rfl (Rp.mono _ e1.ef hu)
  refine st_ret (J := J0) (ev_andV (ev_eq (ev_pshape T h0) (ev_pshape T h1) rfl (c := decide (shapeS kns = shapeS kns')) ?_) (fun _ => ev_andV (ev_eqD (d := .tuple (intD (oz ls))) (e := .tuple (intD (oz ls'))) (b := decide (ls = ls')) ((ev_plens T h0).imp fun _ _ _ => TupD.dat) ((ev_plens T h1).imp fun _ _ _ => TupD.dat) (shaped_tup _) (shaped_tup _) ?_) (fun _ => ev_eq (a := .int lost) (b := .int lost') (ev_plost T h0) (ev_plost T h1) rfl (c := decide (lost = lost')) ?_) rfl) rfl) fun vr wr er hr => q vr wr (e1.trans er) hr
  · rw [decide_eq_decide]
    exact ⟨fun h => V.str.inj h, fun h => by rw [h]⟩
  · rw [PyData.eqv, eqv_ints2, decide_eq_decide]
    exact oz_inj
  · rw [decide_eq_decide]
    exact ⟨fun h => by have := V.int.inj h; omega, fun h => by rw [h]⟩
theorem ev_peq (T : Txt K mg cS cP) (ha : Ev J ta σ w (PlaR K cP kns ls lost lets)) (hb : Ev J tb σ w (PlaR K cP kns' ls' lost' lets')) : Ev J (tOp (rPeq cP (p_Plan_eq K cS cP)) ta tb) σ w (RB (sameB kns kns' ls ls' lost lost')) :=
  ev_op ha hb fun x y w' _ hx hy Q q => by
    have hx' := hx
    have hy' := hy
    obtain ⟨a, dx, fs, vl, rfl, h2, _⟩ := hx
    obtain ⟨b, dy, gs, vm, rfl, h3, _⟩ := hy
    exact ⟨a, b, dx, dy, fs, gs, rfl, rfl, w'.ok _ _ h2, w'.ok _ _ h3, pu_eq T [.ref a, .ref b] w' ⟨hx', hy', trivial⟩ _ fun v w2 e2 h => ⟨⟨_, h⟩, q v w2 e2.any h⟩⟩
/-! ### plan_of -/
/-- places by their indexes -/
def dPl (F : List Int) (n : Nat) : List (Key × V) := (F.take n).map fun x => (Sum.inl x, V.int (F.idxOf x))
theorem dPl_put {F : List Int} (hn : F.Nodup) {n : Nat} (h : n < F.length) : putK (dPl F n) (.inl F[n]) (.int n) = dPl F (n + 1) := by
  have hx : F.idxOf F[n] = n := by
    have h2 := List.getElem_idxOf (List.idxOf_lt_length_iff.mpr (List.getElem_mem h))
    exact (List.getElem_inj hn).mp h2
  have hv : valV (dPl F n) (.inl F[n]) = none := by
    have hnot : F[n] ∉ F.take n := fun hm => by
      obtain ⟨j, hj, e⟩ := List.mem_take_iff_getElem.mp hm
      have := (List.getElem_inj hn).mp e
      omega
    unfold dPl
    generalize F.take n = l at hnot
    induction l with
    | nil => rfl
    | cons a l ih =>
      rw [List.map_cons, valV_neg (fun e => hnot (by rw [← Sum.inl.inj e]; simp)), ih fun hm => hnot (List.mem_cons_of_mem _ hm)]
  rw [putK_new _ hv]
  unfold dPl
  rw [List.take_succ_eq_append_getElem h, List.map_append, List.map_singleton, hx]
/-- cell knots with the indexes of the next knots -/
def dGo (G : List Int) (ix : Int → Nat) : List (Key × V) := G.map fun x => (Sum.inl x, V.int (ix x))
theorem dGo_val {G : List Int} {ix : Int → Nat} {x : Int} : valV (dGo G ix) (.inl x) = if x ∈ G then some (.int (ix x)) else none := by
  unfold dGo
  induction G with
  | nil => rfl
  | cons a l ih =>
    rw [List.map_cons]
    by_cases e : a = x
    · subst e; rw [valV_pos rfl]; simp
    · have e2 : ¬ x = a := fun z => e z.symm
      rw [valV_neg (fun z => e (Sum.inl.inj z)), ih]
      simp [e2]
theorem dPl_val {F : List Int} {x : Int} (h : x ∈ F) : valV (dPl F F.length) (.inl x) = some (.int (F.idxOf x)) := by
  show valV (dGo (F.take F.length) (fun x => F.idxOf x)) _ = _
  rw [List.take_length, dGo_val, if_pos h]
theorem dGo_put {G : List Int} {ix : Int → Nat} {x : Int} (h : x ∉ G) : putK (dGo G ix) (.inl x) (.int (ix x)) = dGo (G ++ [x]) ix := by
  rw [putK_new _ (by rw [dGo_val, if_neg h])]
  simp [dGo]
def letsOf (ns : Names) : List Nat := ns.map (·.1)
theorem prs_lets (ns : Names) (cs : Cells) : (prsOf ns cs).map (·.1) = letsOf ns := by
  unfold prsOf letsOf
  rw [List.map_map]
  rfl
def PlanR (K : PySem.W.Frag) (cP : Addr) (ns : Names) (cs : Cells) : Rp := PlaR K cP (knsOf ns cs) (lenOf ns cs) (lostOf ns cs) (letsOf ns)
theorem kept_snoc {ck : List Int} {n : Nat} (h : n < ck.length) : ck.take (n + 1) = ck.take n ++ [ck[n]] := List.take_succ_eq_append_getElem h
/-- the letters at a place -/
theorem ev_letAt {j k : Nat} {p : Int} (hs : Ev J t σ w (TupR K (ns.map (nmR K)))) (hn : ns.length ≤ 1000) (hw : ∀ x y, wipe (((wipe σ [i, j]).set i (some x)).set j (some y)) [i, j] = wipe σ [i, j])
    (hi : ∀ x y, (((wipe σ [i, j]).set i (some x)).set j (some y))[i]? = some (some x)) (hj : ∀ x y, (((wipe σ [i, j]).set i (some x)).set j (some y))[j]? = some (some y)) (hk : ∀ x y, (((wipe σ [i, j]).set i (some x)).set j (some y))[k]? = some (some (.int p)))
    (hJ : ∀ D, w.h D = none → ¬ J D) : Ev J (tLc (iTup K t) (gTup K 2 (gCons (gName i) (gCons (gName j) gNil))) (tTest (tOp rEq (tVar j) (tVar k))) (tVar i) [i, j]) σ w (LstR K (((lettersAt ns p).map chr).map RS)) := by
  have hsrc := src_tup hs
  rw [List.length_map] at hsrc
  have key : keptR ns.length (fun a => decide (V.int ((ns[a]?.map (·.2)).getD 0) = V.int p)) (fun a => RS (chr ((ns[a]?.map (·.1)).getD 0))) = ((lettersAt ns p).map chr).map RS := by
    rw [keptR_map (f := fun q : Nat × Int => q.2 == p) (E := fun q => RS (chr q.1)) (l := ns) (fun a ha => ?_) (fun a ha => by simp [ha])]
    · unfold M7.lettersAt
      rw [List.map_map, List.map_map]
      rfl
    · simp [ha]
      rw [Bool.eq_iff_iff]
      simp
  rw [← key]
  refine en_lstR (ev_lc2 (A := fun a => RS (chr ((ns[a]?.map (·.1)).getD 0))) (B := fun a => RI ((ns[a]?.map (·.2)).getD 0)) _ _ hsrc (fun a f v ha hv => ?_) (by omega) hw (fun a w1 ha e1 x y hx hy => ?_) hJ)
  · rw [getD_map ha] at hv
    simpa [ha, nmR] using hv
  · cases hx
    cases hy
    exact ⟨et_test (ev_eq (ev_is (hj _ _)) (ev_is (hk _ _)) rfl rfl), fun _ => ev_is (hi _ _)⟩
theorem lets_sum (ls : List Nat) (h : ls.length ≤ 1000) : ((ls.map chr).map (·.length)).sum + (ls.map chr).length * ("" : Str).length ≤ 16777216 := by
  rw [chr_sum]
  show _ + _ * 0 ≤ _
  omega
theorem pu_plan_of (T : Txt K mg cS cP) (vc : VC cs) (vn : VN ns) : Pu0 (p_plan_of K cS cP) [StoR K cS ns cs] (PlanR K cP ns cs) := pu_1 fun v w h Q q => by
  have hff := found_few vc vn
  have hfew := vc.few
  have h4 := vn.four
  have W := M7.whole ns cs
  have KF := knf_of vn vc
  have hck : (cellKnots (arr cs) (foundOf ns cs)).length ≤ 94 := by
    have := List.length_filter_le (fun k => ((arr cs) k).isSome) (foundOf ns cs)
    unfold cellKnots
    omega
  refine sq_drop (J := J0) (ev_cl (ea_cons (ev_var (v := v) rfl h) ea_nil) pu_check_store.pu) fun _ w1 e1 _ => ?_
  refine sq_asgG (J := J0) (ev_parts T vc vn (ev_var (v := v) rfl (Rp.mono _ e1.ef h))) fun vp w2 e2 hp => g_two hp fun vo vs ho hs => ?_
  have l2 := e1.trans e2
  show tSeq _ _ _ [some v, some vo, some vs, none, none, none, none, none, none, none, none, none, none, none, none] w2.h
  refine st_par3 (en_dic (J := J0) w2 .rfl _ fun dn o w3 e3 hdn own1 hho => en_dic (J := J0) w3 .rfl _ fun dg o' w4 e4 hdg own2 hho' => en_lst (J := J0) ea_nil (by simp) w4 .rfl _ fun l o'' w5 e5 hl own3 ⟨xs, hho'', hxs⟩ => ?_)
  subst hho
  subst hho'
  cases hxs.nil_inv
  subst hho''
  have hdn0 : w.h dn = none := l2.fresh hdn
  have hdg0 : w.h dg = none := (l2.trans e3).fresh hdg
  have hl0 : w.h l = none := ((l2.trans e3).trans e4).fresh hl
  have ngn : dg ≠ dn := fun z => by subst z; rw [own1.h] at hdg; cases hdg
  have nlg : l ≠ dg := fun z => by subst z; rw [own2.h] at hl; cases hl
  have nln : l ≠ dn := fun z => by subst z; rw [(own1.le0 e4).h] at hl; cases hl
  have o1 := (own1.le0 e4).le0 e5
  have o2 := own2.le0 e5
  have l5 := ((l2.trans e3).trans e4).trans e5
  have ef25 : Exf w2.f w5.f := ((e3.trans e4).trans e5).ef
  show tSeq _ _ _ [some v, some vo, some vs, some (.ref dn), some (.ref dg), some (.ref l), none, none, none, none, none, none, none, none, none] w5.h
  have hvo : ∀ {x3 x4 x5 x6 x7 x8 x9 x10 x11 x12 x13 x14 : Option V} {w' : Wd}, Exf w2.f w'.f → Ev J0 (tVar 1) [some v, some vo, some vs, x3, x4, x5, x6, x7, x8, x9, x10, x11, x12, x13, x14] w' (LstR K ((foundOf ns cs).map RI)) := fun e => ev_var (v := vo) rfl (Rp.mono _ e ho)
  have hvs : ∀ {x3 x4 x5 x6 x7 x8 x9 x10 x11 x12 x13 x14 : Option V} {w' : Wd}, Exf w2.f w'.f → Ev J0 (tVar 2) [some v, some vo, some vs, x3, x4, x5, x6, x7, x8, x9, x10, x11, x12, x13, x14] w' (LstR K ((cellKnots (arr cs) (foundOf ns cs)).map fun k => strR K (strOf ns cs k))) := fun e => ev_var (v := vs) rfl (Rp.mono _ e hs)
  have hlo : ((foundOf ns cs).map RI).length = (foundOf ns cs).length := by simp
  have hls : ((cellKnots (arr cs) (foundOf ns cs)).map fun k => strR K (strOf ns cs k)).length = (cellKnots (arr cs) (foundOf ns cs)).length := by simp
  refine sq_for (J := J0) (hlo ▸ src_enum (hvo ef25)) (fun i σ1 w6 => Le J0 w w6 ∧ Exf w2.f w6.f ∧ ∃ x6 x7, σ1 = [some v, some vo, some vs, some (.ref dn), some (.ref dg), some (.ref l), x6, x7, none, none, none, none, none, none, none] ∧ Own w6 dn (.dK (dPl (foundOf ns cs) i)) ∧ Own w6 dg (.dK []) ∧ Own w6 l (.lst []))
    (fun w6 e6 => ⟨l5.trans e6, fun p o h => e6.ef p o (ef25 p o h), none, none, rfl, o1.le0 e6, o2.le0 e6, own3.le0 e6⟩) ?_ ?_
  · rintro i σ1 w6 hi ⟨l6, ef6, x6, x7, rfl, o1, o2, o3⟩ z w7 e7 hz Kk bk hK
    rw [getD_map hi] at hz
    refine g_two hz fun a b ha hb => ?_
    cases ha
    cases hb
    show sDPut _ _ _ _ [some v, some vo, some vs, some (.ref dn), some (.ref dg), some (.ref l), some (.int i), some (.int (foundOf ns cs)[i]), none, none, none, none, none, none, none] w7.h
    refine st_setD (J := J0) (x := .inl (foundOf ns cs)[i]) (o1.le0 e7) id rfl (ev_is (v := .int (foundOf ns cs)[i]) rfl) (R := RI i) (ev_is rfl) (by unfold dPl; simp; omega) fun u8 w8 w9 e8 hu8 m9 => ?_
    cases hu8
    have o8 := (o1.le0 e7).le0 e8
    have o9 := m9.own o8.f
    rw [dPl_put W.nodup hi] at o9
    exact hK _ w9 (fun p o h => m9.ef p o (e8.ef p o (e7.ef p o h))) ⟨((l6.trans e7).trans e8).mt m9 hdn0 o8.f, fun p o h => m9.ef p o (e8.ef p o (e7.ef p o (ef6 p o h))), _, _, rfl, o9, ((o2.le0 e7).le0 e8).mt m9 ngn, ((o3.le0 e7).le0 e8).mt m9 nln⟩
  rintro σ1 w6 ⟨l6, ef6, x6, x7, rfl, o1, o2, o3⟩
  -- goals
  refine sq_for (J := J0) (hls ▸ src_list (hvs ef6)) (fun i σ1 w7 => Le J0 w w7 ∧ Exf w2.f w7.f ∧ ∃ x8 x9, σ1 = [some v, some vo, some vs, some (.ref dn), some (.ref dg), some (.ref l), x6, x7, x8, x9, none, none, none, none, none] ∧ Own w7 dn (.dK (dPl (foundOf ns cs) (foundOf ns cs).length)) ∧ Own w7 dg (.dK (dGo ((cellKnots (arr cs) (foundOf ns cs)).take i) fun k => (foundOf ns cs).idxOf (strOf ns cs k).2)) ∧ Own w7 l (.lst []))
    (fun w7 e7 => ⟨l6.trans e7, fun p o h => e7.ef p o (ef6 p o h), none, none, rfl, o1.le0 e7, o2.le0 e7, o3.le0 e7⟩) ?_ ?_
  · rintro i σ1 w7 hi ⟨l7, ef7, x8, x9, rfl, o1, o2, o3⟩ z w8 e8 hz Kk bk hK
    rw [getD_map hi] at hz
    have hmem := List.getElem_mem hi
    obtain ⟨hkF, b, hb⟩ := M7.mem_cellKnots.mp hmem
    obtain ⟨lr, hlr, _⟩ := W.str _ hkF b hb
    have hgoal := W.goal hkF hb
    refine g_two hz fun va vb ha hb' => ?_
    cases hb'
    show sDPut _ _ _ _ [some v, some vo, some vs, some (.ref dn), some (.ref dg), some (.ref l), x6, x7, some va, some (.int (strOf ns cs (cellKnots (arr cs) (foundOf ns cs))[i]).2), none, none, none, none, none] w8.h
    have hnot : (cellKnots (arr cs) (foundOf ns cs))[i] ∉ (cellKnots (arr cs) (foundOf ns cs)).take i := fun hm => by
      obtain ⟨j, hj, e⟩ := List.mem_take_iff_getElem.mp hm
      have := (List.getElem_inj (W.nodup.filter _)).mp e
      omega
    have hcell : Ev J0 (tOp (rIxT K) (tVar 8) (tC (.int 0))) [some v, some vo, some vs, some (.ref dn), some (.ref dg), some (.ref l), x6, x7, some va, some (.int (strOf ns cs (cellKnots (arr cs) (foundOf ns cs))[i]).2), none, none, none, none, none] w8 (RI (cellKnots (arr cs) (foundOf ns cs))[i]) := by
      refine ev_ixT (n := 0) (Rs := (strOf ns cs (cellKnots (arr cs) (foundOf ns cs))[i]).1.map RI) ((ev_var (v := va) rfl ha).imp fun _ _ _ r => tup_ints.mpr (TupD.dat r)) ev_cv ?_
      rw [hlr]
      rfl
    refine st_setD (J := J0) (x := .inl (cellKnots (arr cs) (foundOf ns cs))[i]) (o2.le0 e8) id rfl hcell (R := RI ((foundOf ns cs).idxOf (strOf ns cs (cellKnots (arr cs) (foundOf ns cs))[i]).2)) (ev_dgetO (x := .inl (strOf ns cs (cellKnots (arr cs) (foundOf ns cs))[i]).2) (v := .int ((foundOf ns cs).idxOf (strOf ns cs (cellKnots (arr cs) (foundOf ns cs))[i]).2)) (o1.le0 e8) id rfl (ev_is (v := .int (strOf ns cs (cellKnots (arr cs) (foundOf ns cs))[i]).2) rfl) (dPl_val hgoal) rfl) (by unfold dGo; simp; omega) fun u9 w9 w10 e9 hu9 m10 => ?_
    cases hu9
    have o9 := (o2.le0 e8).le0 e9
    have o10 := m10.own o9.f
    rw [dGo_put (ix := fun k => (foundOf ns cs).idxOf (strOf ns cs k).2) hnot, ← kept_snoc hi] at o10
    exact hK _ w10 (fun p o h => m10.ef p o (e9.ef p o (e8.ef p o h))) ⟨((l7.trans e8).trans e9).mt m10 hdg0 o9.f, fun p o h => m10.ef p o (e9.ef p o (e8.ef p o (ef7 p o h))), _, _, rfl, ((o1.le0 e8).le0 e9).mt m10 ngn.symm, o10, ((o3.le0 e8).le0 e9).mt m10 nlg⟩
  rintro σ1 w7 ⟨l7, ef7, x8, x9, rfl, o1, o2, o3⟩
  rw [List.take_length] at o2
  -- knots
  refine sq_for (J := J0) (hlo ▸ src_list (hvo ef7)) (fun i σ1 w8 => Le J0 w w8 ∧ Exf w2.f w8.f ∧ ∃ x7 x10 x11 xs, σ1 = [some v, some vo, some vs, some (.ref dn), some (.ref dg), some (.ref l), x6, x7, x8, x9, x10, x11, none, none, none] ∧ Own w8 dg (.dK (dGo (cellKnots (arr cs) (foundOf ns cs)) fun k => (foundOf ns cs).idxOf (strOf ns cs k).2)) ∧ Own w8 l (.lst xs) ∧ AllR w8.f (((knsOf ns cs).take i).map (knR K)) xs)
    (fun w8 e8 => ⟨l7.trans e8, fun p o h => e8.ef p o (ef7 p o h), x7, none, none, [], rfl, o2.le0 e8, o3.le0 e8, trivial⟩) ?_ ?_
  · rintro i σ1 w8 hi ⟨l8, ef8, x7, x10, x11, xs, rfl, o2, o3, all⟩ z w9 e9 hz Kk bk hK
    rw [getD_map hi] at hz
    cases hz
    have hpF := List.getElem_mem hi
    have hkn : (knsOf ns cs)[i]'(by rw [kns_len]; exact hi) = knOf (arr cs) ns (foundOf ns cs) (strOf ns cs) (foundOf ns cs)[i] := by simp [knsOf]
    have htk : (knsOf ns cs).take (i + 1) = (knsOf ns cs).take i ++ [knOf (arr cs) ns (foundOf ns cs) (strOf ns cs) (foundOf ns cs)[i]] := by
      rw [← hkn]
      exact List.take_succ_eq_append_getElem _
    generalize hp : (foundOf ns cs)[i] = p at hpF htk
    have hsto : ∀ {x1 x2 x3 x4 x5 x6 x7 x8 x9 x10 x11 x12 x13 x14 : Option V} {w' : Wd}, Le J0 w w' → Ev J0 (tVar 0) [some v, x1, x2, x3, x4, x5, x6, x7, x8, x9, x10, x11, x12, x13, x14] w' (StoR K cS ns cs) := fun e => ev_var (v := v) rfl (Rp.mono _ e.ef h)
    have l9 := l8.trans e9
    have hcell : p ∈ cellKnots (arr cs) (foundOf ns cs) ↔ (arr cs p).isSome = true := by
      rw [M7.mem_cellKnots]
      constructor
      · rintro ⟨_, b, hb⟩; rw [hb]; rfl
      · intro hs
        obtain ⟨b, hb⟩ := Option.isSome_iff_exists.mp hs
        exact ⟨hpF, b, hb⟩
    show tSeq _ _ _ [some v, some vo, some vs, some (.ref dn), some (.ref dg), some (.ref l), x6, some (.int p), x8, x9, x10, x11, none, none, none] w9.h
    have hlet : (lettersAt ns p).length ≤ 1000 := by
      unfold M7.lettersAt
      rw [List.length_map]
      exact Nat.le_trans (List.length_filter_le _ _) (by omega)
    refine sq_asg (J := J0) (R := RS (ltr (lettersAt ns p))) (Ev.of (ev_joinR (K := K) (ys := (lettersAt ns p).map chr) ev_cv (ev_letAt (p := p) (ev_namesR T (hsto l9)) (by omega) (fun _ _ => rfl) (fun _ _ => rfl) (fun _ _ => rfl) (fun _ _ => rfl) fun _ _ => id) (lets_sum _ hlet)) (by rw [join_chr])) fun u10 w10 e10 h10 => ?_
    cases h10
    have og10 := (o2.le0 e9).le0 e10
    show tSeq _ _ _ [some v, some vo, some vs, some (.ref dn), some (.ref dg), some (.ref l), x6, some (.int p), x8, x9, some (.str (ltr (lettersAt ns p))), x11, none, none, none] w10.h
    have hdin : (valV (dGo (cellKnots (arr cs) (foundOf ns cs)) fun k => (foundOf ns cs).idxOf (strOf ns cs k).2) (.inl p)).isSome = (arr cs p).isSome := by
      rw [dGo_val]
      by_cases hc : p ∈ cellKnots (arr cs) (foundOf ns cs)
      · rw [if_pos hc, hcell.mp hc]; rfl
      · rw [if_neg hc]
        cases hb : arr cs p with
        | none => rfl
        | some b => exact absurd (hcell.mpr (by rw [hb]; rfl)) hc
    refine sq_asg (J := J0) (R := RS (sgnS (knOf (arr cs) ns (foundOf ns cs) (strOf ns cs) p).2)) (ev_if (P := (· = (arr cs p).isSome)) (et_b ((ev_dinO (x := .inl p) og10 id rfl (ev_is (v := .int p) rfl)).of (by rw [hdin]))) (fun hb => ?_) (fun hb => ?_)) fun u11 w11 e11 h11 => ?_
    · have e : (knOf (arr cs) ns (foundOf ns cs) (strOf ns cs) p).2 = .to ((foundOf ns cs).idxOf (strOf ns cs p).2) := by unfold M7.knOf; rw [← hb]; rfl
      rw [e]
      have : sgnS (.to ((foundOf ns cs).idxOf (strOf ns cs p).2)) = ">" := str_ext gt_l.symm
      rw [this]
      exact ev_cv
    · have e : (knOf (arr cs) ns (foundOf ns cs) (strOf ns cs) p).2 = if p = 0 then .dot else .bang := by unfold M7.knOf; rw [← hb]; rfl
      rw [e]
      refine ev_if (P := (· = decide (p = 0))) (et_test (ev_eq (ev_is (v := .int p) rfl) ev_cv rfl ?_)) (fun hb => ?_) (fun hb => ?_)
      · rw [decide_eq_decide]
        exact ⟨fun h => V.int.inj h, fun h => by rw [h]⟩
      · rw [if_pos (of_decide_eq_true hb.symm)]
        have : sgnS .dot = "." := by decide +kernel
        rw [this]
        exact ev_cv
      · rw [if_neg (of_decide_eq_false hb.symm)]
        have : sgnS .bang = "!" := by decide +kernel
        rw [this]
        exact ev_cv
    cases h11
    have og11 := og10.le0 e11
    show tDrop _ _ [some v, some vo, some vs, some (.ref dn), some (.ref dg), some (.ref l), x6, some (.int p), x8, x9, some (.str (ltr (lettersAt ns p))), some (.str (sgnS (knOf (arr cs) ns (foundOf ns cs) (strOf ns cs) p).2)), none, none, none] w11.h
    refine st_app (J := J0) (R := knR K (knOf (arr cs) ns (foundOf ns cs) (strOf ns cs) p)) (((o3.le0 e9).le0 e10).le0 e11) id rfl (ev_lst (ea_cons (ev_is rfl) (ea_cons (ev_is rfl) (ea_cons (ev_dget1O (x := .inl p) og11 id rfl (ev_is (v := .int p) rfl) ?_) ea_nil))) (by simp)) (by have := all.len; simp at this; have := kns_len ns cs; omega) fun u12 w12 w13 e12 h12 m13 => ?_
    · rw [dGo_val]
      unfold M7.knOf
      by_cases hc : p ∈ cellKnots (arr cs) (foundOf ns cs)
      · rw [if_pos hc]
        simp only [hcell.mp hc, if_true]
        rfl
      · have hb : (arr cs p).isSome = false := by
          cases hb : (arr cs p).isSome with
          | false => rfl
          | true => exact absurd (hcell.mpr hb) hc
        rw [if_neg hc]
        simp only [hb, Bool.false_eq_true, if_false]
        by_cases h0 : p = 0
        · rw [if_pos h0]; rfl
        · rw [if_neg h0]; rfl
    · have o12 := (((o3.le0 e9).le0 e10).le0 e11).le0 e12
      have ef813 : Exf w8.f w13.f := fun p o h => m13.ef p o (e12.ef p o (e11.ef p o (e10.ef p o (e9.ef p o h))))
      refine hK _ w13 ef813 ⟨((((l9.trans e10).trans e11).trans e12)).mt m13 hl0 o12.f, fun p o h => ef813 p o (ef8 p o h), _, _, _, _, rfl, (og11.le0 e12).mt m13 nlg.symm, m13.own o12.f, ?_⟩
      rw [htk, List.map_append]
      exact (all.mono ef813).snoc ((knR K _).mono m13.ef h12)
  rintro σ1 w8 ⟨l8, ef8, x7', x10, x11, xs, rfl, o2', o3', all⟩
  have hkl := kns_len ns cs
  rw [← hkl, List.take_length] at all
  have l9 : Le J0 w (w8.pub l _ o3'.h) := l8.pub hl0 o3'.h
  have hk9 : (knsR K (knsOf ns cs)).r (w8.pub l _ o3'.h).f (.ref l) := pub_lst o3' all
  have ef9 : Exf w2.f (w8.pub l _ o3'.h).f := fun p o h => pub_ef o3'.h o3'.f p o (ef8 p o h)
  show tSeq (tAsg (tCB (rTupF K) (tCons (tLc (iList K (tVar 2)) (gTup K 2 (gCons (gName 8) (gCons (gName 9) gNil))) tYes (tCB (rLenQ K) (tCons (tVar 8) tNil)) [8, 9]) tNil)) (gName 12)) _ { nx := fun _ H' => Q .non H', rt := Q } [some v, some vo, some vs, some (.ref dn), some (.ref dg), some (.ref l), x6, x7', x8, x9, x10, x11, none, none, none] (w8.pub l _ o3'.h).h
  generalize w8.pub l _ o3'.h = w9 at l9 hk9 ef9
  refine sq_asg (J := J0) (R := TupD K (intD (oz (lenOf ns cs)))) (ev_tupF (Ev.imp (R := LstR K ((oz (lenOf ns cs)).map RI)) ?_ fun _ _ _ => lst_ints.mp)) fun u10 w10 e10 h10 => ?_
  · have key : keptR (cellKnots (arr cs) (foundOf ns cs)).length (fun _ => true) (fun i => RI ((strOf ns cs ((cellKnots (arr cs) (foundOf ns cs)).getD i 0)).1.length)) = (oz (lenOf ns cs)).map RI := by
      rw [keptR_all]
      refine List.ext_getElem (by simp [lenOf, M7.lensOf]) fun j h1 h2 => ?_
      have hj : j < (cellKnots (arr cs) (foundOf ns cs)).length := by simpa using h1
      simp [lenOf, M7.lensOf, List.getD_eq_getElem?_getD, hj]
    rw [← key]
    have hsrc := src_list (hvs (x3 := some (.ref dn)) (x4 := some (.ref dg)) (x5 := some (.ref l)) (x6 := x6) (x7 := x7') (x8 := x8) (x9 := x9) (x10 := x10) (x11 := x11) (x12 := none) (x13 := none) (x14 := none) ef9)
    rw [hls] at hsrc
    refine en_lstR (ev_lc2 (A := fun i => TupD K (intD (strOf ns cs ((cellKnots (arr cs) (foundOf ns cs)).getD i 0)).1)) (B := fun i => RI (strOf ns cs ((cellKnots (arr cs) (foundOf ns cs)).getD i 0)).2) _ _ hsrc (fun i f v hi hv => ?_) (by omega) (fun _ _ => rfl) (fun i w11 hi e11 x y hx hy => ⟨et_yes, fun _ => ?_⟩) fun _ _ => id)
    · rw [getD_map hi] at hv
      rw [getD_at hi]
      exact hv
    · exact (ev_lenT (Rs := ((strOf ns cs ((cellKnots (arr cs) (foundOf ns cs)).getD i 0)).1).map RI) ((ev_var (v := x) rfl hx).imp fun _ _ _ r => tup_ints.mpr (TupD.dat r))).of (by rw [List.length_map])
  have l10 := l9.trans e10
  show tRet _ _ [some v, some vo, some vs, some (.ref dn), some (.ref dg), some (.ref l), x6, x7', x8, x9, x10, x11, some u10, none, none] w10.h
  have hv5 : Ev J0 (tVar 5) [some v, some vo, some vs, some (.ref dn), some (.ref dg), some (.ref l), x6, x7', x8, x9, x10, x11, some u10, none, none] w10 (knsR K (knsOf ns cs)) := ev_var (v := .ref l) rfl (Rp.mono _ e10.ef hk9)
  have hv12 : Ev J0 (tVar 12) [some v, some vo, some vs, some (.ref dn), some (.ref dg), some (.ref l), x6, x7', x8, x9, x10, x11, some u10, none, none] w10 (TupD K (intD (oz (lenOf ns cs)))) := ev_var (v := u10) rfl h10
  refine st_ret (J := J0) (R := PlanR K cP ns cs) ?_ fun vr wr er hr => q vr wr (l10.trans er) hr
  have hcl := M7.come_len ns cs
  have hrg : Ev J0 (tLstRg (tRg1 (tCB (rLenQ K) (tCons (tVar 5) tNil)))) [some v, some vo, some vs, some (.ref dn), some (.ref dg), some (.ref l), x6, x7', x8, x9, x10, x11, some u10, none, none] w10 (LstR K ((oz (List.range (knsOf ns cs).length)).map RI)) := by
    refine fun w' e Q q => ev_lenL (J := J0) hv5 w' e _ fun u w4 e4 hu => ⟨_, hu, RgOk.of_le (by omega) (by have := KF.few; simp; omega) (by omega) (by simp), fun p hp => ?_⟩
    refine q (.ref p) (w4.new p _) (e4.trans (Le.new hp)) ⟨p, _, rfl, .inl (.inl new_at), allR_ints.mpr ?_⟩
    refine List.ext_getElem (by simp [rgV]) fun j h1 h2 => ?_
    simp [rgV]
  have hmk := ev_pla (J := J0) (σ := [some v, some vo, some vs, some (.ref dn), some (.ref dg), some (.ref l), x6, x7', x8, x9, x10, x11, some u10, none, none]) (w := w10) (ls := lenOf ns cs) (lost := lostOf ns cs) T KF (lens_many ns cs) (fun l hl => by have := lens_pos hl; omega) (by unfold M7.lostOf; omega)
    (ea_cons (ev_cl (ea_cons hv5 (ea_cons hrg ea_nil)) (pu_shape (cS := cS) (cP := cP) KF.few KF.good).pu) (ea_cons hv12 (ea_cons ((ev_sub (a := cs.length) (b := (oz (lenOf ns cs)).sum) ((ev_lenT (Rs := cs.map (clR K)) ((ev_cells T (ev_var (i := 0) (R := StoR K cS ns cs) (v := v) rfl (Rp.mono _ l10.ef h))).imp fun _ _ _ => cls_of)).of (by rw [List.length_map])) (ev_sumA hv12)).of (by rw [len_sum]; congr 2; unfold M7.lostOf; omega)) ea_nil)))
  rw [prs_lets] at hmk
  exact hmk
end
end Z
end

section -- P17
set_option Elab.async false
set_option linter.all false
set_option maxRecDepth 100000
set_option maxHeartbeats 4000000
set_option autoImplicit false
namespace Z
open PySem PySem.Spec L2 K07
open M7 (Names Cells Kn Kd startsGo cellsGo)
section
variable {J : Addr → Prop} {σ : St} {w w0 w1 : Wd} {ta tb t te : TE} {ts : TA} {K : PySem.W.Frag} {cS cP : Addr} {mg : PySem.Str → Option Value} {D : Ends} {sa : TS} {g g1 : TG} {i : Nat} {R : Rp} {Rs Ss : List Rp} {kns : List Kn} {prs : List (Nat × Nat)} {ns : Names} {cs : Cells} {ls : List Nat} {lost : Nat} {lets : List Nat}
/-- a list that stands, frozen or not -/
def EvH (J : Addr → Prop) (t : TE) (σ : St) (w : Wd) (Rs : List Rp) : Prop := ∀ w', Le J w w' → ∀ Q : VK, (∀ p xs w'', Le J w' w'' → ¬ J p → w''.h p = some (.lst xs) → AllR w''.f Rs xs → Q (.ref p) w''.h) → t σ w'.h Q
theorem evh_own {l : Addr} {xs : List V} (hl : Own w l (.lst xs)) (hj : ¬ J l) (hv : σ[i]? = some (some (.ref l))) (a : AllR w.f Rs xs) : EvH J (tVar i) σ w Rs := fun w' e Q q => ⟨.ref l, hv, q l xs w' .rfl hj (hl.le e hj).h (a.mono e.ef)⟩
theorem evh_n (hj : ∀ D, w.h D = none → ¬ J D) (h : EvN J t σ w fun f o => ∃ xs, o = .lst xs ∧ AllR f Rs xs) : EvH J t σ w Rs := fun w' e Q q => h w' e Q fun p o w'' e2 hp own ⟨xs, ho, a⟩ => by
  subst ho
  exact q p xs w'' e2 (hj p (e.fresh hp)) own.h a
/-- a frozen list, as it lies -/
def LsX (Rs : List Rp) : Rp := ⟨fun f v => ∃ a xs, v = .ref a ∧ f a = some (.lst xs) ∧ AllR f Rs xs, fun e ⟨a, xs, h1, h2, h3⟩ => ⟨a, xs, h1, e _ _ h2, h3.mono e⟩⟩
theorem lsX_lst {f : Hp} {v : V} (h : (LsX Rs).r f v) : (LstR K Rs).r f v := by
  obtain ⟨a, xs, h1, h2, h3⟩ := h
  exact ⟨a, xs, h1, .inl (.inl h2), h3⟩
theorem en_lsX (h : EvN J te σ w fun f' o => ∃ xs, o = .lst xs ∧ AllR f' Rs xs) : Ev J te σ w (LsX Rs) := fun w' e Q q => h w' e _ fun p o w1 e1 hp own ⟨xs, ho, all⟩ => by
  subst ho
  exact q (.ref p) (w1.pub p _ own.h) (e1.pub hp own.h) ⟨p, xs, rfl, pub_at own.h, all.mono (pub_ef own.h own.f)⟩
theorem evh_x (h : Ev J0 t σ w (LsX Rs)) : EvH J0 t σ w Rs := fun w' e Q q => h w' e Q fun v w2 e2 ⟨a, xs, h1, h2, h3⟩ => by
  subst h1
  exact q a xs w2 e2 id (w2.ok _ _ h2) h3
theorem en_cat (hj : ∀ D, w.h D = none → ¬ J D) (ha : EvH J ta σ w Rs) (hb : EvH J tb σ w Ss) (hl : Rs.length + Ss.length ≤ 100000) : EvN J (tOp rCat ta tb) σ w fun f o => ∃ xs, o = .lst xs ∧ AllR f (Rs ++ Ss) xs := fun w' e Q q =>
  ha w' e _ fun p xs w1 e1 jp hp ap => hb w1 (e.trans e1) _ fun p2 ys w2 e2 jp2 hp2 ap2 => by
    refine ⟨p, p2, xs, ys, rfl, rfl, e2.hJ jp hp, hp2, by rw [ap.len, ap2.len]; exact Nat.le_trans hl (by decide), fun p3 hp3 => ?_⟩
    exact q p3 _ (w2.put p3 _ (w2.fresh_f hp3)) ((e1.trans e2).trans (put_le hp3)) ((e1.trans e2).fresh hp3) (Mt.own (Wd.put_mt _) (w2.fresh_f hp3)) ⟨_, rfl, (ap.mono e2.ef).append ap2⟩
theorem st_ext {l : Addr} {xs : List V} {rest : TS} (hl : Own w l (.lst xs)) (hj : ¬ J l) (hv : σ[i]? = some (some (.ref l))) (h : EvN J te σ w fun f o => ∃ ys, o = .lst ys ∧ AllR f Rs ys) (hz : xs.length + Rs.length ≤ 100000)
    (k : ∀ ys w1 w2, Le J w w1 → AllR w1.f Rs ys → Mt l (.lst (xs ++ ys)) w1 w2 → rest D σ w2.h) : tSeq (tDrop (tBM K "list" rExtend (tVar i) (tCons te tNil))) rest D σ w.h :=
  ⟨.ref l, hv, .inl ⟨rfl, xs, .inl (.inl hl.h)⟩, h w .rfl _ fun p o w1 e1 hp own ⟨ys, ho, a⟩ => by
    subst ho
    exact ⟨l, p, xs, ys, rfl, rfl, (hl.le e1 hj).h, own.h, by rw [a.len]; exact Nat.le_trans hz (by decide), k ys w1 (w1.put l _ (hl.le e1 hj).f) e1 a (Wd.put_mt _)⟩⟩
theorem nm_to {f : Hp} {q : Nat × Int} {v : V} (h : (nmR K q).r f v) : (Dat K (nmD q)).r f v := by
  obtain ⟨a, xs, h1, h2, h3⟩ := h
  obtain ⟨x, xs, rfl, hx, h3⟩ := h3.cons_inv
  obtain ⟨y, xs, rfl, hy, h3⟩ := h3.cons_inv
  cases h3.nil_inv
  cases hx
  cases hy
  subst h1
  exact Dp.tup h2 (.cons (.str _) (.cons (.int _) .nil))
theorem cl_to {f : Hp} {q : Int × Int} {v : V} (h : (clR K q).r f v) : (Dat K (clD q)).r f v := by
  obtain ⟨a, xs, h1, h2, h3⟩ := h
  obtain ⟨x, xs, rfl, hx, h3⟩ := h3.cons_inv
  obtain ⟨y, xs, rfl, hy, h3⟩ := h3.cons_inv
  cases h3.nil_inv
  cases hx
  cases hy
  subst h1
  exact Dp.tup h2 (.cons (.int _) (.cons (.int _) .nil))
theorem nms_to (h : Ev J t σ w (LstR K (ns.map (nmR K)))) : Ev J t σ w (Dat K (.list (ns.map nmD))) := h.imp fun _ _ _ r => lst_dat.mp (by rw [List.map_map]; exact lstR_map (fun x _ u => nm_to) r)
theorem cls_to (h : Ev J t σ w (LstR K (cs.map (clR K)))) : Ev J t σ w (Dat K (.list (cs.map clD))) := h.imp fun _ _ _ r => lst_dat.mp (by rw [List.map_map]; exact lstR_map (fun x _ u => cl_to) r)
/-! ### sorted pairs -/
theorem pairs_at {α : Type} {f : Hp} {e1 e2 : α → V} : ∀ {l : List α} {xs : List V}, AllR f (l.map fun q => TupR K [Is (e1 q), Is (e2 q)]) xs → ∃ ps : List (Addr × α), xs = ps.map (fun q => V.ref q.1) ∧ ps.map (·.2) = l ∧ ∀ q ∈ ps, SqT K f q.1 [e1 q.2, e2 q.2]
  | [], xs, h => ⟨[], h.nil_inv, rfl, by simp⟩
  | a :: l, xs, h => by
    obtain ⟨v, ws, rfl, h1, h2⟩ := h.cons_inv
    obtain ⟨p, ys, rfl, h3, h4⟩ := h1
    obtain ⟨x, ys, rfl, hx, h4⟩ := h4.cons_inv
    obtain ⟨y, ys, rfl, hy, h4⟩ := h4.cons_inv
    cases h4.nil_inv
    cases hx
    cases hy
    obtain ⟨ps, rfl, e, h5⟩ := pairs_at h2
    exact ⟨(p, a) :: ps, rfl, by rw [List.map_cons, e], fun q hq => by
      rcases List.mem_cons.mp hq with rfl | hq
      · exact h3
      · exact h5 q hq⟩
theorem at_pairs {α : Type} {f : Hp} {e1 e2 : α → V} : ∀ {ps : List (Addr × α)}, (∀ q ∈ ps, SqT K f q.1 [e1 q.2, e2 q.2]) → AllR f ((ps.map (·.2)).map fun q => TupR K [Is (e1 q), Is (e2 q)]) (ps.map fun q => V.ref q.1)
  | [], _ => trivial
  | p :: ps, h => ⟨⟨p.1, _, rfl, h p (by simp), rfl, rfl, trivial⟩, at_pairs fun q hq => h q (List.mem_cons_of_mem _ hq)⟩
theorem ev_sortedG {α : Type} {enc : Addr × α → PyData} {e1 e2 : α → V} {l zs : List α} (le : α → α → Prop) (hle : ∀ p q, W.dataLe false enc p q = true ↔ le p.2 q.2) (anti : ∀ a b, le a b → le b a → a = b)
    (ha : Ev J ta σ w (LstR K (l.map fun q => TupR K [Is (e1 q), Is (e2 q)]))) (hl : l.length < 64) (hz : zs.Pairwise le) (hp : zs.Perm l) : Ev J (tCB (rSortedG K enc e1 e2) (tCons ta tNil)) σ w (LsX (zs.map fun q => TupR K [Is (e1 q), Is (e2 q)])) := fun w' e Q q =>
  ha w' e _ fun v w1 e1' ⟨a, xs, h1, h2, h3⟩ => by
    obtain ⟨ps, rfl, e2', h5⟩ := pairs_at h3
    subst h1
    refine ⟨a, ps, rfl, sqL_h w1 h2, fun q hq => sqT_h w1 (h5 q hq), by rw [← List.length_map (f := (·.2)), e2']; exact hl, fun p hp' => ?_⟩
    have hperm := List.mergeSort_perm ps (W.dataLe false enc)
    have hsort : (ps.mergeSort (W.dataLe false enc)).Pairwise (fun a b => W.dataLe false enc a b = true) := W.sort_pairwise (W.sortLe_total (PyProof.Rows.listOrd PyProof.Rows.itemOrd) false fun b => W.keyToks (enc b)) ps
    have e3 : (ps.mergeSort (W.dataLe false enc)).map (·.2) = zs := by
      refine List.Perm.eq_of_pairwise (le := le) (fun a b _ _ => anti a b) ?_ hz ?_
      · rw [List.pairwise_map]
        exact hsort.imp fun h => (hle _ _).mp h
      · have h7 := hperm.map (·.2)
        rw [e2'] at h7
        exact h7.trans hp.symm
    have h6 : ∀ q ∈ ps.mergeSort (W.dataLe false enc), SqT K w1.f q.1 [e1 q.2, e2 q.2] := fun q hq => h5 q (hperm.mem_iff.mp hq)
    refine q (.ref p) (w1.new p _) (e1'.trans (Le.new hp')) ⟨p, _, rfl, new_at, ?_⟩
    rw [← e3]
    exact (at_pairs h6).mono (Le.new (J := J) hp').ef
theorem lt_chr2 (a b : Nat) : decide ((chr a).cps.toList < (chr b).cps.toList) = decide (a < b) := lt_one
theorem leN (p q : Addr × Nat × Int) : W.dataLe false (fun q : Addr × Nat × Int => encN (q.1, chr q.2.1, q.2.2)) p q = true ↔ (p.2.1 < q.2.1 ∨ (p.2.1 = q.2.1 ∧ p.2.2 ≤ q.2.2)) := by
  obtain ⟨a, b, c⟩ := p
  obtain ⟨d, e, f⟩ := q
  rw [W.dataLe_eq]
  show (!W.dataLt (.tuple [.str (chr e), .int f]) (.tuple [.str (chr b), .int c])) = true ↔ _
  rw [W.dataLt_pair (by simp [W.alike]) (by simp [W.alike]), W.dataLt_str, W.dataLt_int, lt_chr2]
  simp only [PyData.eqv]
  by_cases h : e = b
  · subst h
    by_cases h2 : f = c
    · subst h2; simp
    · have : (f == c) = false := by simpa using h2
      simp [this]
  · have h' : (chr e == chr b) = false := by
      rw [beq_eq_false_iff_ne]
      exact fun z => h (chr_inj z)
    simp only [h', Bool.false_eq_true, if_false]
    simp
    omega
theorem antiN (a b : Nat × Int) (h1 : a.1 < b.1 ∨ (a.1 = b.1 ∧ a.2 ≤ b.2)) (h2 : b.1 < a.1 ∨ (b.1 = a.1 ∧ b.2 ≤ a.2)) : a = b := Prod.ext (by omega) (by omega)
theorem antiC (a b : Int × Int) (h1 : a.1 < b.1 ∨ (a.1 = b.1 ∧ a.2 ≤ b.2)) (h2 : b.1 < a.1 ∨ (b.1 = a.1 ∧ b.2 ≤ a.2)) : a = b := Prod.ext (by omega) (by omega)
theorem leC (p q : Addr × Int × Int) : W.dataLe false encC p q = true ↔ (p.2.1 < q.2.1 ∨ (p.2.1 = q.2.1 ∧ p.2.2 ≤ q.2.2)) := by
  have := congrFun (congrFun (W.dataLe_ii (fun q : Addr × Int × Int => q.2.1) (fun q => q.2.2)) p) q
  show W.dataLe false (fun b : Addr × Int × Int => .tuple [.int b.2.1, .int b.2.2]) p q = true ↔ _
  rw [this, decide_eq_true_eq]
theorem ev_sortedCX {l zs : Cells} (ha : Ev J ta σ w (LstR K (l.map (clR K)))) (hl : l.length < 64) (hz : zs.Pairwise fun a b => a.1 < b.1) (hp : zs.Perm l) : Ev J (tCB (rSortedC K) (tCons ta tNil)) σ w (LsX (zs.map (clR K))) :=
  ev_sortedG (enc := encC) (e1 := fun q => .int q.1) (e2 := fun q => .int q.2) (fun a b => a.1 < b.1 ∨ (a.1 = b.1 ∧ a.2 ≤ b.2)) leC antiC ha hl (hz.imp fun h => .inl h) hp
theorem pairsN_at {f : Hp} : ∀ {l : Names} {xs : List V}, AllR f (l.map (nmR K)) xs → ∃ ps : List (Addr × Nat × Int), xs = ps.map (fun q => V.ref q.1) ∧ ps.map (·.2) = l ∧ ∀ q ∈ ps, SqT K f q.1 [.str (chr q.2.1), .int q.2.2] := fun h => pairs_at (e1 := fun q : Nat × Int => .str (chr q.1)) (e2 := fun q : Nat × Int => .int q.2) h
theorem ev_sortedN {l zs : Names} (ha : Ev J ta σ w (LstR K (l.map (nmR K)))) (hl : l.length < 64) (hz : zs.Pairwise fun a b => a.1 < b.1) (hp : zs.Perm l) : Ev J (tCB (rSortedN K) (tCons ta tNil)) σ w (LstR K (zs.map (nmR K))) := fun w' e Q q =>
  ha w' e _ fun v w1 e1' ⟨a, xs, h1, h2, h3⟩ => by
    obtain ⟨ps, rfl, e2', h5⟩ := pairsN_at h3
    subst h1
    let up : Addr × Nat × Int → Addr × Str × Int := fun q => (q.1, chr q.2.1, q.2.2)
    have hup : (ps.map up).map (fun q => V.ref q.1) = ps.map fun q => V.ref q.1 := by rw [List.map_map]; rfl
    refine ⟨a, ps.map up, rfl, by rw [hup]; exact sqL_h w1 h2, fun q hq => ?_, by rw [List.length_map, ← List.length_map (f := (·.2)), e2']; exact hl, fun p hp' => ?_⟩
    · obtain ⟨r, hr, rfl⟩ := List.mem_map.mp hq
      exact sqT_h w1 (h5 r hr)
    have hm : (ps.mergeSort (W.dataLe false fun q => encN (up q))).map up = (ps.map up).mergeSort (W.dataLe false encN) := W.sort_maps up fun a _ b _ => rfl
    rw [← hm]
    have hperm := List.mergeSort_perm ps (W.dataLe false fun q => encN (up q))
    have hsort : (ps.mergeSort (W.dataLe false fun q => encN (up q))).Pairwise (fun a b => W.dataLe false (fun q => encN (up q)) a b = true) := W.sort_pairwise (W.sortLe_total (PyProof.Rows.listOrd PyProof.Rows.itemOrd) false fun b => W.keyToks (encN (up b))) ps
    have e3 : (ps.mergeSort (W.dataLe false fun q => encN (up q))).map (·.2) = zs := by
      refine List.Perm.eq_of_pairwise (le := fun a b : Nat × Int => a.1 < b.1 ∨ (a.1 = b.1 ∧ a.2 ≤ b.2)) (fun a b _ _ => antiN a b) ?_ (hz.imp fun h => .inl h) ?_
      · rw [List.pairwise_map]
        exact hsort.imp fun h => (leN _ _).mp h
      · have h7 := hperm.map (·.2)
        rw [e2'] at h7
        exact h7.trans hp.symm
    have h6 : ∀ q ∈ ps.mergeSort (W.dataLe false fun q => encN (up q)), SqT K w1.f q.1 [.str (chr q.2.1), .int q.2.2] := fun q hq => h5 q (hperm.mem_iff.mp hq)
    refine q (.ref p) (w1.new p _) (e1'.trans (Le.new hp')) ⟨p, _, rfl, .inl (.inl new_at), ?_⟩
    rw [← e3, List.map_map]
    exact (at_pairs (e1 := fun q : Nat × Int => .str (chr q.1)) (e2 := fun q : Nat × Int => .int q.2) h6).mono (Le.new (J := J) hp').ef
end
end Z
end

section -- P18
set_option Elab.async false
set_option linter.all false
set_option maxRecDepth 100000
set_option maxHeartbeats 4000000
set_option autoImplicit false
namespace Z
open PySem PySem.Spec L2 K07
open M7 (Names Cells Kn Kd startsGo cellsGo)
section
variable {J : Addr → Prop} {σ : St} {w w0 w1 : Wd} {ta tb tc t te : TE} {ts : TA} {K : PySem.W.Frag} {cS cP : Addr} {mg : PySem.Str → Option Value} {D : Ends} {sa rest : TS} {g g1 : TG} {i j k m : Nat} {R Ra Rb Rc : Rp} {Rs Ss : List Rp} {kns : List Kn} {prs : List (Nat × Nat)} {ns : Names} {cs : Cells} {ls : List Nat} {lost : Nat} {lets : List Nat} {st : List Int}
theorem own_new {p l : Addr} {o u : HO} (h : Own w l o) (hp : w.h p = none) : Own (w.new p u) l o := by
  have hne : l ≠ p := fun z => by subst z; rw [h.h] at hp; cases hp
  exact ⟨(upd_ne hne).trans h.h, (upd_ne hne).trans h.f⟩
/-- a, b = [], e -/
theorem sq_tup2N (hb : Ev J tb σ w R) (hj : ∀ D, w.h D = none → ¬ J D) (q : ∀ p v w', Le J w w' → w.h p = none → Own w' p (.lst []) → R.r w'.f v → rest D ((σ.set i (some (.ref p))).set j (some v)) w'.h) :
    tSeq (tAsg (tTup (tCons (tLst tNil) (tCons tb tNil))) (gTup K 2 (gCons (gName i) (gCons (gName j) gNil)))) rest D σ w.h := by
  show tLst tNil σ w.h fun x H1 => tb σ H1 fun y H2 => [x, y].length ≤ sizeLine ∧ ∀ p, H2 p = none → gTup K 2 (gCons (gName i) (gCons (gName j) gNil)) (.ref p) σ (upd H2 p (.tup [x, y])) (rest D)
  refine en_lst (J := J) ea_nil (by simp) w .rfl _ fun p o w1 e1 hp own ⟨xs, ho, hxs⟩ => hb w1 e1 _ fun v w2 e2 hv => ?_
  cases hxs.nil_inv
  subst ho
  refine ⟨by show 2 ≤ sizeLine; decide, fun p2 hp2 => ?_⟩
  refine ⟨p2, _, rfl, .inl (.inl upd_same), rfl, _, _, rfl, _, _, rfl, rfl, ?_⟩
  exact q p v (w2.new p2 _) ((e1.trans e2).trans (Le.new hp2)) hp (own_new (own.le e2 (hj p hp)) hp2) (R.mono (Le.new (J := J) hp2).ef hv)
/-- a, b, c, d = e, [], f, g -/
theorem sq_tup4N (ha : Ev J ta σ w Ra) (hb : Ev J tb σ w Rb) (hc : Ev J tc σ w Rc) (hj : ∀ D, w.h D = none → ¬ J D) (q : ∀ p x y z w', Le J w w' → w.h p = none → Own w' p (.lst []) → Ra.r w'.f x → Rb.r w'.f y → Rc.r w'.f z → rest D ((((σ.set i (some x)).set j (some (.ref p))).set k (some y)).set m (some z)) w'.h) :
    tSeq (tAsg (tTup (tCons ta (tCons (tLst tNil) (tCons tb (tCons tc tNil))))) (gTup K 4 (gCons (gName i) (gCons (gName j) (gCons (gName k) (gCons (gName m) gNil)))))) rest D σ w.h := by
  show ta σ w.h fun x0 H0 => tLst tNil σ H0 fun x H1 => tb σ H1 fun y H2 => tc σ H2 fun z H3 => [x0, x, y, z].length ≤ sizeLine ∧ ∀ p, H3 p = none → gTup K 4 (gCons (gName i) (gCons (gName j) (gCons (gName k) (gCons (gName m) gNil)))) (.ref p) σ (upd H3 p (.tup [x0, x, y, z])) (rest D)
  refine ha w .rfl _ fun x w0 e0 hx => en_lst (J := J) (w := w0) ea_nil (by simp) w0 .rfl _ fun p o w1 e1 hp own ⟨xs, ho, hxs⟩ => hb w1 (e0.trans e1) _ fun y w2 e2 hy => hc w2 ((e0.trans e1).trans e2) _ fun z w3 e3 hz => ?_
  cases hxs.nil_inv
  subst ho
  have hp0 : w.h p = none := e0.fresh hp
  refine ⟨by show 4 ≤ sizeLine; decide, fun p2 hp2 => ?_⟩
  refine ⟨p2, _, rfl, .inl (.inl upd_same), rfl, _, _, rfl, _, _, rfl, _, _, rfl, _, _, rfl, rfl, ?_⟩
  have ef := (Le.new (J := J) (w := w3) (o := .tup [x, V.ref p, y, z]) hp2)
  exact q p x y z (w3.new p2 _) ((((e0.trans e1).trans e2).trans e3).trans ef) hp0 (own_new ((own.le e2 (hj p hp0)).le e3 (hj p hp0)) hp2) (Ra.mono (((e1.trans e2).trans e3).trans ef).ef hx) (Rb.mono (e3.trans ef).ef hy) (Rc.mono ef.ef hz)
def nnOf (prs : List (Nat × Nat)) (st : List Int) : Names := prs.map fun q => (q.1, st.getD q.2 0)
theorem pu_names_at (F : KnF kns prs) (hst : st.length = kns.length) : Pu0 (p_names_at K cS cP) [knsR K kns, LstR K (st.map RI)] (TupD K ((nnOf prs st).map nmD)) := pu_2 fun v u w h hu Q q => by
  have hfew := F.few
  have h4 := F.four
  have hperm : (nnOf prs st).Perm ((dn kns kns.length).map fun q => (q.1, st.getD q.2 0)) := (F.perm.map _).symm
  have hasc : (nnOf prs st).Pairwise fun a b => a.1 < b.1 := by
    unfold nnOf
    rw [List.pairwise_map]
    exact F.asc
  refine st_ret (J := J0) (ev_tupF (nms_to (ev_sortedN (l := (dn kns kns.length).map fun q => (q.1, st.getD q.2 0)) ?_ (by rw [List.length_map, F.perm.length_eq]; omega) hasc hperm))) q
  have key : ((List.range kns.length).flatMap fun i => (List.range (kns.getD i ([], .dot)).1.length).map fun j => nmR K ((kns.getD i ([], .dot)).1.getD j 0, st.getD i 0)) = ((dn kns kns.length).map fun q => (q.1, st.getD q.2 0)).map (nmR K) := by
    unfold dn
    rw [List.map_flatMap, List.map_flatMap]
    congr 1
    funext i
    rw [List.map_map, List.map_map]
    refine List.ext_getElem (by simp) fun j h1 h2 => ?_
    have hj : j < (kns.getD i ([], .dot)).1.length := by simpa using h1
    have e := getD_at (d := 0) hj
    simp only [List.getElem_map, List.getElem_range, Function.comp, e]
  rw [← key]
  have hsrc := src_enum (K := K) (J := J0) (ev_var (σ := start N_names_at [v, u]) (i := 0) (R := knsR K kns) (v := v) rfl h)
  rw [List.length_map] at hsrc
  refine en_lc2 (fun i j => nmR K ((kns.getD i ([], .dot)).1.getD j 0, st.getD i 0)) hsrc hfew (n1 := fun i => (kns.getD i ([], .dot)).1.length) (P1 := fun i j => Some Nat (fun c => (ltr (kns.getD i ([], .dot)).1).cps[j]? = some c) fun c => RS ⟨#[c]⟩) (fun i hi => ?_) (fun i w1 hi e1 y hy Q' hQ' => ?_) fun _ _ => id
  · rw [getD_at hi]
    have := goodL (F.good _ (List.getElem_mem hi)) hfew
    omega
  · rw [getD_map hi] at hy
    simp only [getD_at hi] at hQ'
    refine g_two hy fun a b ha hb => ?_
    cases ha
    have hstr : Ev J0 (tOp (rIxL K) (tVar 3) (tC (.int 0))) [some v, some u, some (.int i), some b, none] w1 (RS (ltr kns[i].1)) := ev_ixL (n := 0) (Rs := [RS (ltr kns[i].1), RS (sgnS kns[i].2), goalR kns[i].2]) (ev_var (v := b) rfl hb) ev_cv rfl
    have hsz : (ltr kns[i].1).cps.size = kns[i].1.length := by show kns[i].1.toArray.size = _; simp
    have hs2 := src_str hstr
    rw [hsz] at hs2
    refine hQ' [some v, some u, some (.int i), some b, none] w1 .rfl rfl hs2 fun j w15 hj e15 ef15 z ⟨c, hc, hz⟩ Q2 hQ2 => hQ2 _ w15 .rfl rfl ?_
    have hcc : kns[i].1.getD j 0 = c := by
      have : (ltr kns[i].1).cps[j]? = kns[i].1[j]? := by show kns[i].1.toArray[j]? = _; simp
      rw [this] at hc
      rw [List.getD_eq_getElem?_getD, hc]
      rfl
    rw [hcc]
    have hi2 : i < st.length := by omega
    refine ev_tup (ea_cons (ev_var (v := z) rfl hz) (ea_cons (R := RI (st.getD i 0)) (ev_ixL (n := i) (ev_var (v := u) rfl (Rp.mono _ e15.ef hu)) (ev_is rfl) ?_) ea_nil)) (by simp)
    rw [getD_at hi2]
    simp [hi2]
/-! ### the cells of the canonical store -/
theorem cellsGo_to {l : List Nat} {k : Nat} {ks : List Kn} {ss : List Int} {lh : Nat} {lt : List Nat} {s : Int} {sr : List Int} {a : List Nat} : cellsGo st ((a, .to k) :: ks) (s :: sr) (lh :: lt) = ((List.range (lh - 1)).map fun (j : Nat) => (s + (j : Int), s + (j : Int) + 1)) ++ [(s + (lh : Int) - 1, st.getD k 0)] ++ cellsGo st ks sr lt := rfl
theorem cellsGo_no {kn : Kn} {ks : List Kn} {s : Int} {sr : List Int} (h : isTo kn.2 = false) : cellsGo st (kn :: ks) (s :: sr) ls = cellsGo st ks sr ls := by
  obtain ⟨a, d⟩ := kn
  cases d with
  | dot => rfl
  | bang => rfl
  | to k => cases h
def lostC (n lost : Nat) : Cells := (List.range lost).map fun (i : Nat) => ((n : Int) + 1 + (i : Int), 0)
theorem pu_cells_along (T : Txt K mg cS cP) (hfew : kns.length ≤ 100) (gk : ∀ kn ∈ kns, GoodK kns.length kn) (hst : st.length = kns.length) (hl : ls.length = (kns.filter fun kn => isTo kn.2).length) (h1 : ∀ l ∈ ls, 1 ≤ l ∧ l ≤ 100) (h0 : lost ≤ 100) (hsb : ∀ s ∈ st, 0 ≤ s ∧ s ≤ 1000) :
    Pu0 (p_cells_along K cS cP) [PlaR K cP kns ls lost lets, knsR K kns, LstR K (st.map RI)] (TupD K ((cellsGo st kns st ls ++ lostC (cellsGo st kns st ls).length lost).map clD)) := pu_3 fun v u x w h hu hx Q q => by
  have hjj : ∀ D, w.h D = none → ¬ J0 D := fun _ _ => id
  refine sq_tup2N (J := J0) (R := RI 0) ev_cv hjj fun l y w1 e1 hl0 own1 hy => ?_
  cases hy
  show tSeq _ _ _ [some v, some u, some x, some (.ref l), some (.int 0), none, none, none, none, none, none] w1.h
  have hsrc := src_enum (K := K) (J := J0) (ev_var (σ := [some v, some u, some x, some (.ref l), some (.int 0), none, none, none, none, none, none]) (i := 1) (w := w1) (R := knsR K kns) (v := u) rfl (Rp.mono _ e1.ef hu))
  rw [List.length_map] at hsrc
  refine sq_for (J := J0) hsrc (fun i σ1 w2 => Le J0 w w2 ∧ ∃ (fs : Cells) (n : Nat), ∃ x5 x6 x7 x8 xs, σ1 = [some v, some u, some x, some (.ref l), some (.int n), x5, x6, x7, x8, none, none] ∧ Own w2 l (.lst xs) ∧ AllR w2.f (fs.map (clR K)) xs ∧
      fs ++ cellsGo st (kns.drop i) (st.drop i) (ls.drop n) = cellsGo st kns st ls ∧ n = ((kns.take i).filter fun kn => isTo kn.2).length ∧ fs.length ≤ i * 200)
    (fun w2 e2 => ⟨e1.trans e2, [], 0, none, none, none, none, [], rfl, own1.le0 e2, trivial, rfl, rfl, by simp⟩) ?_ ?_
  · rintro i σ1 w2 hi ⟨l2, fs, n, x5, x6, x7, x8, xs, rfl, own2, all2, hrest, hn, hfl⟩ z w3 e3 hz Kk bk hK
    rw [getD_map hi] at hz
    refine g_two hz fun a b ha hb => ?_
    cases ha
    have gi := gk _ (List.getElem_mem hi)
    have hdrop : kns.drop i = kns[i] :: kns.drop (i + 1) := List.drop_eq_getElem_cons hi
    have hsi : i < st.length := by omega
    have hdst : st.drop i = st[i] :: st.drop (i + 1) := List.drop_eq_getElem_cons hsi
    have htk : kns.take (i + 1) = kns.take i ++ [kns[i]] := List.take_succ_eq_append_getElem hi
    have hallen : xs.length = fs.length := by have := all2.len; simpa using this
    show tIfS _ _ _ _ [some v, some u, some x, some (.ref l), some (.int n), some (.int i), some b, x7, x8, none, none] w3.h
    have hb6 : ∀ {x7 x8 x9 x10 : Option V} {n : Nat} {w' : Wd}, Exf w3.f w'.f → Ev J0 (tVar 6) [some v, some u, some x, some (.ref l), some (.int n), some (.int i), some b, x7, x8, x9, x10] w' (LstR K [RS (ltr kns[i].1), RS (sgnS kns[i].2), goalR kns[i].2]) := fun e => ev_var (v := b) rfl (Rp.mono _ e hb)
    rw [hdrop, hdst] at hrest
    refine st_if (J := J0) (et_test (ev_eq (ev_ixL (n := 1) (hb6 fun _ _ h => h) ev_cv rfl) ev_cv rfl (f2 _))) (fun hto w4 e4 => ?_) (fun hto w4 e4 => ?_)
    · obtain ⟨kk, hk⟩ : ∃ kk, kns[i].2 = .to kk := by
        cases hd : kns[i].2 with
        | dot => rw [hd] at hto; cases hto
        | bang => rw [hd] at hto; cases hto
        | to k => exact ⟨k, rfl⟩
      have hkk := gi.to_ kk hk
      have hnl : n < ls.length := by
        rw [hl, hn]
        have h2 : (kns.filter fun kn => isTo kn.2) = (kns.take i).filter (fun kn => isTo kn.2) ++ (kns.drop i).filter (fun kn => isTo kn.2) := by rw [← List.filter_append, List.take_append_drop]
        rw [h2, hdrop, List.length_append, List.filter_cons_of_pos (by rw [hk]; rfl)]
        simp
      have hdl : ls.drop n = ls[n] :: ls.drop (n + 1) := List.drop_eq_getElem_cons hnl
      have hln := h1 _ (List.getElem_mem hnl)
      rw [hdl] at hrest
      have hre : (kns[i] :: kns.drop (i + 1)) = (kns[i].1, .to kk) :: kns.drop (i + 1) := by rw [← hk]
      rw [hre, cellsGo_to (l := []) (ss := [])] at hrest
      have l4 := (l2.trans e3).trans e4
      show tSeq _ _ _ [some v, some u, some x, some (.ref l), some (.int n), some (.int i), some b, x7, x8, none, none] w4.h
      refine sq_par2 (J := J0) (Ra := RI st[i]) (Rb := RI ls[n]) (ea_cons (ev_ixL (n := i) (ev_var (i := 2) (R := LstR K (st.map RI)) (v := x) rfl (Rp.mono _ l4.ef hx)) (ev_is rfl) (by simp [hsi])) (ea_cons (ev_ixT (n := n) (Rs := (oz ls).map RI) ((ev_plens T (ev_var (i := 0) (R := PlaR K cP kns ls lost lets) (v := v) rfl (Rp.mono _ l4.ef h))).imp fun _ _ _ r => tup_ints.mpr (TupD.dat r)) (ev_is rfl) (by simp [hnl])) ea_nil)) fun a5 b5 w5 e5 h5 h5' => ?_
      cases h5
      cases h5'
      show tSeq _ _ _ [some v, some u, some x, some (.ref l), some (.int n), some (.int i), some b, some (.int st[i]), some (.int ls[n]), none, none] w5.h
      have own5 := ((own2.le0 e3).le0 e4).le0 e5
      have all5 := all2.mono ((e3.trans e4).trans e5).ef
      have hb1 := hln.1
      have hrng := src_rng2 (J := J0) (σ := [some v, some u, some x, some (.ref l), some (.int n), some (.int i), some b, some (.int st[i]), some (.int ls[n]), none, none]) (w := w5) (ta := tVar 7) (tb := tOp rSubI (tOp rAddI (tVar 7) (tVar 8)) (tC (.int 1))) (a := st[i]) (b := st[i] + ls[n] - 1) (ev_is rfl) (ev_sub (ev_add (ev_is rfl) (ev_is rfl)) ev_cv) (by have := hsb _ (List.getElem_mem hsi); omega) (by have := hsb _ (List.getElem_mem hsi); omega) (by have := hsb _ (List.getElem_mem hsi); omega) (by have := hsb _ (List.getElem_mem hsi); omega)
      have hcnt : (st[i] + (ls[n] : Int) - 1 - st[i]).toNat = ls[n] - 1 := by omega
      rw [hcnt] at hrng
      have hcomp := ev_lc1 (te := tTup (tCons (tVar 10) (tCons (tOp rAddI (tVar 10) (tC (.int 1))) tNil))) (i := 10) (fun _ => true) (fun j => clR K (st[i] + (j : Int), st[i] + (j : Int) + 1)) hrng (by omega) (fun j w6 hj e6 y hy => ⟨et_yes, fun _ => by
        cases hy
        exact ev_tup (ea_cons (ev_is rfl) (ea_cons (ev_add (ev_is rfl) ev_cv) ea_nil)) (by simp)⟩) fun _ _ => id
      rw [keptR_all] at hcomp
      refine st_ext (J := J0) own5 id rfl hcomp (by simp; omega) fun ys w6 w7 e6 hys m7 => ?_
      have own6 := own5.le0 e6
      have own7 := m7.own own6.f
      have l7 := ((l4.trans e5).trans e6).mt m7 hl0 own6.f
      have ef37 : Exf w3.f w7.f := fun p o h => m7.ef p o (((e4.trans e5).trans e6).ef p o h)
      have all7 : AllR w7.f ((fs ++ (List.range (ls[n] - 1)).map fun (j : Nat) => (st[i] + (j : Int), st[i] + (j : Int) + 1)).map (clR K)) (xs ++ ys) := by
        rw [List.map_append]
        refine (all5.mono fun p o h => m7.ef p o (e6.ef p o h)).append ?_
        rw [List.map_map]
        exact hys.mono m7.ef
      have hylen : ys.length = ls[n] - 1 := by have := hys.len; simpa using this
      show tSeq _ _ _ [some v, some u, some x, some (.ref l), some (.int n), some (.int i), some b, some (.int st[i]), some (.int ls[n]), none, none] w7.h
      have hgl : Ev J0 (tOp (rIxL K) (tVar 6) (tC (.int 2))) [some v, some u, some x, some (.ref l), some (.int n), some (.int i), some b, some (.int st[i]), some (.int ls[n]), none, none] w7 (RI kk) := by
        have := ev_ixL (J := J0) (n := 2) (hb6 (x7 := some (.int st[i])) (x8 := some (.int ls[n])) (x9 := none) (x10 := none) (n := n) ef37) (ev_cv (v := .int 2)) rfl
        rw [hk] at this
        exact this
      have hkst : kk < st.length := by omega
      refine st_app (J := J0) (R := clR K (st[i] + (ls[n] : Int) - 1, st.getD kk 0)) own7 id rfl (ev_tup (ea_cons (ev_sub (ev_add (ev_is rfl) (ev_is rfl)) ev_cv) (ea_cons (ev_ixL (n := kk) (ev_var (i := 2) (R := LstR K (st.map RI)) (v := x) rfl (Rp.mono _ l7.ef hx)) hgl (by rw [getD_at hkst]; simp [hkst])) ea_nil)) (by simp)) (by rw [List.length_append]; omega) fun u8 w8 w9 e8 hu8 m9 => ?_
      have own8 := own7.le0 e8
      have own9 := m9.own own8.f
      have l9 := (l7.trans e8).mt m9 hl0 own8.f
      refine st_asg (J := J0) (R := RI (n + 1 : Nat)) ((ev_add (a := n) (b := 1) (ev_is rfl) ev_cv).of (by congr 2)) fun u10 w10 e10 hu10 => ?_
      cases hu10
      refine hK _ w10 (fun p o h => e10.ef p o (m9.ef p o (e8.ef p o (ef37 p o (e3.ef p o h))))) ⟨l9.trans e10, fs ++ ((List.range (ls[n] - 1)).map fun (j : Nat) => (st[i] + (j : Int), st[i] + (j : Int) + 1)) ++ [(st[i] + (ls[n] : Int) - 1, st.getD kk 0)], n + 1, _, _, _, _, _, rfl, own9.le0 e10, ?_, ?_, ?_, ?_⟩
      · rw [List.map_append]
        exact ((all7.mono fun p o h => m9.ef p o (e8.ef p o h)).snoc (Rp.mono _ m9.ef hu8)).mono e10.ef
      · rw [← hrest]
        simp only [List.append_assoc]
      · rw [htk, List.filter_append, List.length_append, ← hn, List.filter_cons_of_pos (by rw [hk]; rfl)]
        rfl
      · simp
        omega
    · have hno : isTo kns[i].2 = false := hto.symm
      rw [cellsGo_no hno] at hrest
      refine hK _ w4 (fun p o h => e4.ef p o (e3.ef p o h)) ⟨(l2.trans e3).trans e4, fs, n, _, _, _, _, _, rfl, (own2.le0 e3).le0 e4, (all2.mono e3.ef).mono e4.ef, hrest, ?_, by omega⟩
      rw [htk, List.filter_append, List.length_append, ← hn, List.filter_cons_of_neg (by rw [hno]; decide)]
      rfl
  · rintro σ1 w2 ⟨l2, fs, n, x5, x6, x7, x8, xs, rfl, own2, all2, hrest, hn, hfl⟩
    have hfs : fs = cellsGo st kns st ls := by
      rw [← hrest, List.drop_length]
      show fs = fs ++ []
      simp
    subst hfs
    have hxl : xs.length = (cellsGo st kns st ls).length := by have := all2.len; simpa using this
    have hlen : (cellsGo st kns st ls).length ≤ 20000 := by
      have : kns.length * 200 ≤ 100 * 200 := Nat.mul_le_mul hfew (Nat.le_refl _)
      omega
    show tRet (tCB (rTupF K) (tCons (tOp rCat (tVar 3) (tLc (iRng1 (tCons (tFld K (tVar 0) "lost") tNil)) (gName 9) tYes (tTup (tCons (tOp rAddI (tOp rAddI (tCB (rLenQ K) (tCons (tVar 3) tNil)) (tC (.int 1))) (tVar 9)) (tCons (tC (.int 0)) tNil))) [9])) tNil)) { nx := fun _ H' => Q .non H', rt := Q } [some v, some u, some x, some (.ref l), some (.int n), x5, x6, x7, x8, none, none] w2.h
    have hrng := src_rng1 (J := J0) (σ := [some v, some u, some x, some (.ref l), some (.int n), x5, x6, x7, x8, none, none]) (w := w2) (te := tFld K (tVar 0) "lost") (n := lost) (ev_plost T (ev_var (i := 0) (R := PlaR K cP kns ls lost lets) (v := v) rfl (Rp.mono _ l2.ef h))) (by omega) (by omega)
    have hcomp := ev_lc1 (te := tTup (tCons (tOp rAddI (tOp rAddI (tCB (rLenQ K) (tCons (tVar 3) tNil)) (tC (.int 1))) (tVar 9)) (tCons (tC (.int 0)) tNil))) (i := 9) (fun _ => true) (fun (j : Nat) => clR K (((cellsGo st kns st ls).length : Int) + 1 + (j : Int), 0)) hrng (by omega) (fun j w6 hj e6 y hy => ⟨et_yes, fun _ => by
        cases hy
        exact ev_tup (ea_cons (ev_add (ev_add ((ev_lenO (own2.le0 e6) id rfl).of (by rw [hxl])) ev_cv) (ev_is rfl)) (ea_cons ev_cv ea_nil)) (by simp)⟩) fun _ _ => id
    rw [keptR_all] at hcomp
    have hcat := en_cat (J := J0) (fun _ _ => id) (evh_own (i := 3) own2 id rfl all2) (evh_n (fun _ _ => id) hcomp) (by simp; omega)
    refine st_ret (J := J0) (ev_tupF (cls_to ((en_lstR (K := K) hcat).of ?_))) fun vr wr er hr => q vr wr (l2.trans er) hr
    rw [List.map_append]
    congr 1
    unfold lostC
    rw [List.map_map]
    rfl
end
end Z
end

section -- P19
set_option Elab.async false
set_option linter.all false
set_option maxRecDepth 100000
set_option maxHeartbeats 4000000
set_option autoImplicit false
namespace Z
open PySem PySem.Spec L2 K07
open M7 (Names Cells Kn Kd startsGo cellsGo arr headsOf comeOf knotK knotL foundOf strOf knsOf lenOf lostOf cellKnots)
section
variable {J : Addr → Prop} {σ : St} {w w0 w1 : Wd} {ta tb tc t te : TE} {ts : TA} {K : PySem.W.Frag} {cS cP : Addr} {mg : PySem.Str → Option Value} {D : Ends} {sa rest : TS} {g g1 : TG} {i j k m : Nat} {R Ra Rb Rc : Rp} {Rs Ss : List Rp} {kns : List Kn} {prs : List (Nat × Nat)} {ns : Names} {cs : Cells} {ls : List Nat} {lost : Nat} {lets : List Nat} {st : List Int}
theorem ev_prop {A : Rp} {sp : Sp} (hp : Pu0 sp [A] R) (hA : ∀ f v, A.r f v → ∃ a dx fs, v = .ref a ∧ f a = some (.ins cP dx fs)) (h : Ev J t σ w A) : Ev J (tProp cP sp [] E0 t) σ w R := fun w' e Q q => h w' e _ fun v w1 e1 hv => by
  obtain ⟨a, dx, fs, rfl, ha⟩ := hA _ _ hv
  exact ⟨a, dx, fs, rfl, w1.ok _ _ ha, hp [.ref a] w1 ⟨hv, trivial⟩ _ fun u w2 e2 hu => q u w2 (e1.trans e2.any) hu⟩
theorem pla_ins {f : Hp} {v : V} (h : (PlaR K cP kns ls lost lets).r f v) : ∃ a dx fs, v = .ref a ∧ f a = some (.ins cP dx fs) := by
  obtain ⟨a, dx, fs, vl, h1, h2, _⟩ := h
  exact ⟨a, dx, fs, h1, h2⟩
theorem ev_size (T : Txt K mg cS cP) (h : Ev J t σ w (PlaR K cP kns ls lost lets)) : Ev J (tProp cP (p_Plan_size K cS cP) [] E0 t) σ w (RI ((oz ls).sum + lost)) := ev_prop (pu_size T) (fun _ _ => pla_ins) h
theorem ev_ptext (T : Txt K mg cS cP) (F : KnF kns prs) (hl : ls.length ≤ 100) (hb : ∀ l ∈ ls, l < 10 ^ 10) (h0 : lost < 10 ^ 10) (h : Ev J t σ w (PlaR K cP kns ls lost lets)) : Ev J (tProp cP (p_Plan_text K cS cP) [] E0 t) σ w (RS (ptext kns ls lost)) := ev_prop (pu_text T F hl hb h0) (fun _ _ => pla_ins) h
theorem starts_len : ∀ (kns : List Kn) (ls : List Nat) (c g : Nat), (startsGo kns ls c g).length = kns.length
  | [], _, _, _ => rfl
  | (_, .dot) :: ks, ls, c, g => by simp [startsGo, starts_len ks]
  | (_, .bang) :: ks, ls, c, g => by simp [startsGo, starts_len ks]
  | (_, .to _) :: ks, ls, c, g => by simp [startsGo, starts_len ks]
/-- what store_of lays out -/
def stOf (kns : List Kn) (ls : List Nat) (lost : Nat) : List Int := startsGo kns ls 0 (ls.sum + lost)
def ccOf (kns : List Kn) (ls : List Nat) (lost : Nat) : Cells := cellsGo (stOf kns ls lost) kns (stOf kns ls lost) ls ++ lostC (cellsGo (stOf kns ls lost) kns (stOf kns ls lost) ls).length lost
theorem oz_sum (ls : List Nat) : (oz ls).sum = (ls.sum : Int) := by
  induction ls with
  | nil => rfl
  | cons a l ih => simp [oz] at ih ⊢; omega
theorem pu_store_of (T : Txt K mg cS cP) (F : KnF kns prs) (hl : ls.length = (kns.filter fun kn => isTo kn.2).length) (h1 : ∀ l ∈ ls, 1 ≤ l ∧ l ≤ 100) (h0 : lost ≤ 100) (hsum : ls.sum + lost ≤ 500) (hsb : ∀ s ∈ stOf kns ls lost, 0 ≤ s ∧ s ≤ 1000)
    (vn : VN (nnOf prs (stOf kns ls lost))) (vc : VC (ccOf kns ls lost)) : Pu0 (p_store_of K cS cP) [PlaR K cP kns ls lost lets] (StoR K cS (nnOf prs (stOf kns ls lost)) (ccOf kns ls lost)) := pu_1 fun v w h Q q => by
  have hfew := F.few
  have hst : (stOf kns ls lost).length = kns.length := starts_len _ _ _ _
  refine sq_drop (J := J0) (ev_cl (ea_cons (ev_var (v := v) rfl h) ea_nil) pu_check_plan.pu) fun _ w1 e1 _ => ?_
  have hv : ∀ {x1 x2 x3 x4 x5 x6 x7 x8 : Option V} {w' : Wd}, Le J0 w w' → Ev J0 (tVar 0) [some v, x1, x2, x3, x4, x5, x6, x7, x8] w' (PlaR K cP kns ls lost lets) := fun e => ev_var (v := v) rfl (Rp.mono _ e.ef h)
  refine st_skip (J := J0) (et_test (ev_gt (ev_size T (hv e1)) ev_cv (by rw [oz_sum]; exact decide_eq_false (by omega)))) fun w2 e2 => ?_
  have l2 := e1.trans e2
  refine sq_tup4N (J := J0) (ev_cl (ea_cons (ev_pshape T (hv l2)) ea_nil) (pu_knots_in (n := kns.length) F.ne hfew hfew F.good).pu) (Ra := knsR K kns) (Rb := RI 0) (Rc := RI 0) ev_cv ev_cv (fun _ _ => id) fun l vk y z w3 e3 hl0' own3 hk hy hz => ?_
  cases hy
  cases hz
  have hl0 : w.h l = none := l2.fresh hl0'
  have l3 := l2.trans e3
  show tSeq _ _ _ [some v, some vk, some (.ref l), some (.int 0), some (.int 0), none, none, none, none] w3.h
  refine sq_asg (J := J0) (R := RI ((ls.sum + lost : Nat) : Int)) ((ev_size T (hv l3)).of (by rw [oz_sum]; congr 2)) fun u4 w4 e4 h4 => ?_
  cases h4
  show tSeq _ _ _ [some v, some vk, some (.ref l), some (.int 0), some (.int 0), some (.int ((ls.sum + lost : Nat) : Int)), none, none, none] w4.h
  have hsrc := src_list (J := J0) (ev_var (σ := [some v, some vk, some (.ref l), some (.int 0), some (.int 0), some (.int ((ls.sum + lost : Nat) : Int)), none, none, none]) (i := 1) (w := w4) (R := knsR K kns) (v := vk) rfl (Rp.mono _ e4.ef hk))
  rw [List.length_map] at hsrc
  refine sq_for (J := J0) hsrc (fun i σ1 w5 => Le J0 w w5 ∧ Exf w4.f w5.f ∧ ∃ (ss : List Int) (c n gg : Nat), ∃ x6 x7 x8, σ1 = [some v, some vk, some (.ref l), some (.int c), some (.int n), some (.int gg), x6, x7, x8] ∧ Own w5 l (.lst (ss.map V.int)) ∧
      ss ++ startsGo (kns.drop i) (ls.drop n) c gg = stOf kns ls lost ∧ n = ((kns.take i).filter fun kn => isTo kn.2).length)
    (fun w5 e5 => ⟨(l3.trans e4).trans e5, e5.ef, [], 0, 0, ls.sum + lost, none, none, none, rfl, (own3.le0 e4).le0 e5, rfl, rfl⟩) ?_ ?_
  · rintro i σ1 w5 hi ⟨l5, ef5, ss, c, n, gg, x6, x7, x8, rfl, own5, hrest, hn⟩ z w6 e6 hz Kk bk hK
    rw [getD_map hi] at hz
    have hdrop : kns.drop i = kns[i] :: kns.drop (i + 1) := List.drop_eq_getElem_cons hi
    have htk : kns.take (i + 1) = kns.take i ++ [kns[i]] := List.take_succ_eq_append_getElem hi
    have hssl : ss.length ≤ 100 := by
      have := congrArg List.length hrest
      rw [List.length_append, hst] at this
      omega
    rw [hdrop] at hrest
    refine g_unl3 hz fun a b c' ha hb hc => ?_
    cases ha
    cases hb
    show tIfS _ _ _ _ [some v, some vk, some (.ref l), some (.int c), some (.int n), some (.int gg), some (.str (ltr kns[i].1)), some (.str (sgnS kns[i].2)), some c'] w6.h
    have own6 := own5.le0 e6
    have l6 := l5.trans e6
    refine st_if (J := J0) (et_test (ev_eq (ev_is rfl) ev_cv rfl (f2 _))) (fun hto w7 e7 => ?_) (fun hto w7 e7 => ?_)
    · obtain ⟨kk, hk'⟩ : ∃ kk, kns[i].2 = .to kk := by
        cases hd : kns[i].2 with
        | dot => rw [hd] at hto; cases hto
        | bang => rw [hd] at hto; cases hto
        | to k => exact ⟨k, rfl⟩
      have hnl : n < ls.length := by
        rw [hl, hn]
        have h2 : (kns.filter fun kn => isTo kn.2) = (kns.take i).filter (fun kn => isTo kn.2) ++ (kns.drop i).filter (fun kn => isTo kn.2) := by rw [← List.filter_append, List.take_append_drop]
        rw [h2, hdrop, List.length_append, List.filter_cons_of_pos (by rw [hk']; rfl)]
        simp
      have hdl : ls.drop n = ls[n] :: ls.drop (n + 1) := List.drop_eq_getElem_cons hnl
      have hre : (kns[i] :: kns.drop (i + 1)) = (kns[i].1, .to kk) :: kns.drop (i + 1) := by rw [← hk']
      rw [hdl, hre] at hrest
      have hrest : ss ++ (((c : Int) + 1) :: startsGo (kns.drop (i + 1)) (ls.drop (n + 1)) (c + ls[n]) gg) = stOf kns ls lost := hrest
      have own7 := own6.le0 e7
      show tSeq _ _ _ [some v, some vk, some (.ref l), some (.int c), some (.int n), some (.int gg), some (.str (ltr kns[i].1)), some (.str (sgnS kns[i].2)), some c'] w7.h
      refine st_app (J := J0) (R := RI ((c : Int) + 1)) own7 id rfl (ev_add (ev_is rfl) ev_cv) (by rw [List.length_map]; omega) fun u8 w8 w9 e8 h8 m9 => ?_
      cases h8
      have own8 := own7.le0 e8
      have own9 := m9.own own8.f
      have l9 := ((l6.trans e7).trans e8).mt m9 hl0 own8.f
      refine sq_asg (J := J0) (R := RI ((c + ls[n] : Nat) : Int)) ((ev_add (a := c) (b := ls[n]) (ev_is rfl) (ev_ixT (n := n) (Rs := (oz ls).map RI) ((ev_plens T (hv l9)).imp fun _ _ _ r => tup_ints.mpr (TupD.dat r)) (ev_is rfl) (by simp [hnl]))).of (by congr 2)) fun u10 w10 e10 h10 => ?_
      cases h10
      show tAsg _ _ _ [some v, some vk, some (.ref l), some (.int ((c + ls[n] : Nat) : Int)), some (.int n), some (.int gg), some (.str (ltr kns[i].1)), some (.str (sgnS kns[i].2)), some c'] w10.h
      refine st_asg (J := J0) (R := RI ((n + 1 : Nat) : Int)) ((ev_add (a := n) (b := 1) (ev_is rfl) ev_cv).of (by congr 2)) fun u11 w11 e11 h11 => ?_
      cases h11
      have efX : Exf w5.f w11.f := fun p o h => e11.ef p o (e10.ef p o (m9.ef p o (e8.ef p o (e7.ef p o (e6.ef p o h)))))
      refine hK _ w11 efX ⟨(l9.trans e10).trans e11, fun p o h => efX p o (ef5 p o h), ss ++ [(c : Int) + 1], c + ls[n], n + 1, gg, _, _, _, rfl, ?_, ?_, ?_⟩
      · rw [List.map_append]
        exact (own9.le0 e10).le0 e11
      · rw [← hrest]
        simp
      · rw [htk, List.filter_append, List.length_append, ← hn, List.filter_cons_of_pos (by rw [hk']; rfl)]
        rfl
    · have hno : isTo kns[i].2 = false := hto.symm
      have own7 := own6.le0 e7
      have hbang : ("!" : Str).cps.toList = [33] := by decide +kernel
      have hsg : decide (V.str (sgnS kns[i].2) = V.str "!") = decide (kns[i].2 = .bang) := by
        cases hd : kns[i].2 with
        | dot => exact eq_str_l (by rw [hbang]; show [46] ≠ [33]; decide)
        | bang => exact decide_eq_true (congrArg V.str (str_ext hbang.symm))
        | to k => rw [hd] at hno; cases hno
      show tSeq _ _ _ [some v, some vk, some (.ref l), some (.int c), some (.int n), some (.int gg), some (.str (ltr kns[i].1)), some (.str (sgnS kns[i].2)), some c'] w7.h
      have hcount : n = ((kns.take (i + 1)).filter fun kn => isTo kn.2).length := by
        rw [htk, List.filter_append, List.length_append, ← hn, List.filter_cons_of_neg (by rw [hno]; decide)]
        rfl
      by_cases hbg : kns[i].2 = .bang
      · have hre : (kns[i] :: kns.drop (i + 1)) = (kns[i].1, .bang) :: kns.drop (i + 1) := by rw [← hbg]
        rw [hre] at hrest
        have hrest : ss ++ (((gg : Int) + 1) :: startsGo (kns.drop (i + 1)) (ls.drop n) c (gg + 1)) = stOf kns ls lost := hrest
        have e1 : decide (V.str (sgnS kns[i].2) = V.str "!") = true := by rw [hsg, decide_eq_true hbg]
        refine sq_asg (J := J0) (R := RI ((gg + 1 : Nat) : Int)) ((ev_add (a := gg) (b := 1) (ev_is rfl) (ev_if (P := (· = true)) (et_test (ev_eq (ev_is rfl) ev_cv rfl e1)) (fun _ => ev_cv) (fun h => nomatch h))).of (by congr 2)) fun u8 w8 e8 h8 => ?_
        cases h8
        show tDrop _ _ [some v, some vk, some (.ref l), some (.int c), some (.int n), some (.int ((gg + 1 : Nat) : Int)), some (.str (ltr kns[i].1)), some (.str (sgnS kns[i].2)), some c'] w8.h
        refine st_app (J := J0) (R := RI ((gg + 1 : Nat) : Int)) (own7.le0 e8) id rfl (ev_if (P := (· = true)) (et_test (ev_eq (ev_is rfl) ev_cv rfl e1)) (fun _ => ev_is rfl) (fun h => nomatch h)) (by rw [List.length_map]; omega) fun u9 w9 w10 e9 h9 m10 => ?_
        cases h9
        have own9 := (own7.le0 e8).le0 e9
        have efX : Exf w5.f w10.f := fun p o h => m10.ef p o (e9.ef p o (e8.ef p o (e7.ef p o (e6.ef p o h))))
        refine hK _ w10 efX ⟨(((l6.trans e7).trans e8).trans e9).mt m10 hl0 own9.f, fun p o h => efX p o (ef5 p o h), ss ++ [((gg + 1 : Nat) : Int)], c, n, gg + 1, _, _, _, rfl, ?_, ?_, hcount⟩
        · rw [List.map_append]
          exact m10.own own9.f
        · rw [← hrest]
          simp
      · have hdt : kns[i].2 = .dot := by
          cases hd : kns[i].2 with
          | dot => rfl
          | bang => exact absurd hd hbg
          | to k => rw [hd] at hno; cases hno
        have hre : (kns[i] :: kns.drop (i + 1)) = (kns[i].1, .dot) :: kns.drop (i + 1) := by rw [← hdt]
        rw [hre] at hrest
        have hrest : ss ++ (0 :: startsGo (kns.drop (i + 1)) (ls.drop n) c gg) = stOf kns ls lost := hrest
        have e1 : decide (V.str (sgnS kns[i].2) = V.str "!") = false := by rw [hsg, decide_eq_false hbg]
        refine sq_asg (J := J0) (R := RI ((gg : Nat) : Int)) ((ev_add (a := gg) (b := 0) (ev_is rfl) (ev_if (P := (· = false)) (et_test (ev_eq (ev_is rfl) ev_cv rfl e1)) (fun h => nomatch h) (fun _ => ev_cv))).of (by congr 2)) fun u8 w8 e8 h8 => ?_
        cases h8
        show tDrop _ _ [some v, some vk, some (.ref l), some (.int c), some (.int n), some (.int gg), some (.str (ltr kns[i].1)), some (.str (sgnS kns[i].2)), some c'] w8.h
        refine st_app (J := J0) (R := RI 0) (own7.le0 e8) id rfl (ev_if (P := (· = false)) (et_test (ev_eq (ev_is rfl) ev_cv rfl e1)) (fun h => nomatch h) (fun _ => ev_cv)) (by rw [List.length_map]; omega) fun u9 w9 w10 e9 h9 m10 => ?_
        cases h9
        have own9 := (own7.le0 e8).le0 e9
        have efX : Exf w5.f w10.f := fun p o h => m10.ef p o (e9.ef p o (e8.ef p o (e7.ef p o (e6.ef p o h))))
        refine hK _ w10 efX ⟨(((l6.trans e7).trans e8).trans e9).mt m10 hl0 own9.f, fun p o h => efX p o (ef5 p o h), ss ++ [0], c, n, gg, _, _, _, rfl, ?_, ?_, hcount⟩
        · rw [List.map_append]
          exact m10.own own9.f
        · rw [← hrest]
          simp
  rintro σ1 w5 ⟨l5, ef5, ss, c, n, gg, x6, x7, x8, rfl, own5, hrest, hn⟩
  have hss : ss = stOf kns ls lost := by
    rw [← hrest, List.drop_length]
    show ss = ss ++ []
    simp
  subst hss
  have lp : Le J0 w (w5.pub l _ own5.h) := l5.pub hl0 own5.h
  have hls := pub_lst (K := K) own5 (allR_ints.mpr rfl)
  show tRet (tMake cS (p_Store_init K cS cP) [] E0 (tCons (tCl (p_names_at K cS cP) (tCons (tVar 1) (tCons (tVar 2) tNil))) (tCons (tCl (p_cells_along K cS cP) (tCons (tVar 0) (tCons (tVar 1) (tCons (tVar 2) tNil)))) tNil))) { nx := fun _ H' => Q .non H', rt := Q } [some v, some vk, some (.ref l), some (.int c), some (.int n), some (.int gg), x6, x7, x8] (w5.pub l _ own5.h).h
  have efk : Exf w3.f (w5.pub l _ own5.h).f := fun p o h => pub_ef own5.h own5.f p o (ef5 p o (e4.ef p o h))
  have hvk : Ev J0 (tVar 1) [some v, some vk, some (.ref l), some (.int c), some (.int n), some (.int gg), x6, x7, x8] (w5.pub l _ own5.h) (knsR K kns) := ev_var (v := vk) rfl (Rp.mono _ efk hk)
  have hvl : Ev J0 (tVar 2) [some v, some vk, some (.ref l), some (.int c), some (.int n), some (.int gg), x6, x7, x8] (w5.pub l _ own5.h) (LstR K ((stOf kns ls lost).map RI)) := ev_var (v := .ref l) rfl hls
  exact st_ret (J := J0) (ev_sto T vn vc (ea_cons (ev_cl (ea_cons hvk (ea_cons hvl ea_nil)) (pu_names_at F hst).pu) (ea_cons (ev_cl (ea_cons (hv lp) (ea_cons hvk (ea_cons hvl ea_nil))) (pu_cells_along T hfew F.good hst hl h1 h0 hsb).pu) ea_nil))) fun vr wr er hr => q vr wr (lp.trans er) hr
end
end Z
end

section -- P20
set_option Elab.async false
set_option linter.all false
set_option maxRecDepth 100000
set_option maxHeartbeats 4000000
set_option autoImplicit false
namespace Z
open PySem PySem.Spec L2 K07
open M7 (Names Cells Kn Kd startsGo cellsGo arr headsOf comeOf knotK knotL foundOf strOf knsOf lenOf lostOf cellKnots phi canonCells)
section
variable {J : Addr → Prop} {σ : St} {w w0 w1 : Wd} {ta tb tc t te : TE} {ts : TA} {K : PySem.W.Frag} {cS cP : Addr} {mg : PySem.Str → Option Value} {D : Ends} {sa rest : TS} {g g1 : TG} {i j k m : Nat} {R Ra Rb Rc : Rp} {Rs Ss : List Rp} {ns ns' : Names} {cs cs' : Cells}
/-- the canonical store of a store's plan -/
def phiOf (ns : Names) (cs : Cells) : Int → Int := phi (arr cs) (foundOf ns cs) (strOf ns cs) cs.length
def tN (ns : Names) (cs : Cells) : Names := ns.map fun q => (q.1, phiOf ns cs q.2)
def tC7 (ns : Names) (cs : Cells) : Cells := canonCells (arr cs) (foundOf ns cs) (strOf ns cs) cs.length (lostOf ns cs)
theorem VC.zero (vc : VC cs) : ∀ q, ((0 : Int), q) ∉ cs := fun q h => by have := (vc.pos _ h).1; simp at this
theorem come_zero (vc : VC cs) : (0 : Int) ∉ comeOf ns cs := fun h => by
  obtain ⟨⟨q, hq⟩, _⟩ := ((M7.whole ns cs).C.mem 0).mp h
  exact vc.zero q (M7.lookup_mem hq)
theorem sum_lost (ns : Names) (cs : Cells) : (lenOf ns cs).sum + lostOf ns cs = cs.length := by
  have h := (M7.whole ns cs).sum
  have e : (lenOf ns cs).sum = (comeOf ns cs).length := h
  have := M7.come_len ns cs
  unfold M7.lostOf
  omega
theorem st_eq (vc : VC cs) : stOf (knsOf ns cs) (lenOf ns cs) (lostOf ns cs) = (foundOf ns cs).map (phiOf ns cs) := by
  unfold stOf
  rw [sum_lost]
  exact M7.starts_eq (names := ns) (size := cs.length) (M7.whole ns cs) (come_zero vc) (foundOf ns cs) [] rfl
theorem nn_eq (vn : VN ns) (vc : VC cs) : nnOf (prsOf ns cs) (stOf (knsOf ns cs) (lenOf ns cs) (lostOf ns cs)) = tN ns cs := by
  rw [st_eq vc]
  unfold nnOf prsOf tN
  rw [List.map_map]
  refine List.map_congr_left fun q hq => ?_
  have hF : q.2 ∈ foundOf ns cs := (M7.found_mem ns cs q.2).mpr ⟨M7.Reached.head (List.mem_map.mpr ⟨q, hq, rfl⟩), M7.L_head (List.mem_map.mpr ⟨q, hq, rfl⟩)⟩
  have hlt := List.idxOf_lt_length_iff.mpr hF
  show (q.1, ((foundOf ns cs).map (phiOf ns cs)).getD ((foundOf ns cs).idxOf q.2) 0) = _
  rw [getD_at (by simpa using hlt)]
  simp
theorem cc_eq (vc : VC cs) : ccOf (knsOf ns cs) (lenOf ns cs) (lostOf ns cs) = tC7 ns cs := by
  unfold ccOf
  rw [st_eq vc]
  have h := M7.cells_eq (names := ns) (size := cs.length) (M7.whole ns cs) (foundOf ns cs) [] rfl
  have h' : cellsGo ((foundOf ns cs).map (phiOf ns cs)) (knsOf ns cs) ((foundOf ns cs).map (phiOf ns cs)) (lenOf ns cs) = _ := h
  rw [h', List.length_map]
  rfl
theorem phi_bound (vn : VN ns) (vc : VC cs) (x : Int) : 0 ≤ phiOf ns cs x ∧ phiOf ns cs x ≤ 200 := by
  have hf := found_few vc vn
  have hc := vc.few
  have W := M7.whole ns cs
  have hcl := M7.come_len ns cs
  unfold phiOf phi
  split
  · next h =>
    have := List.idxOf_lt_length_iff.mpr h
    rw [M7.flat_len W] at this
    omega
  · split
    · omega
    · have h1 : (M7.bangs (arr cs) (foundOf ns cs)).idxOf x ≤ (M7.bangs (arr cs) (foundOf ns cs)).length := List.idxOf_le_length
      have h2 : (M7.bangs (arr cs) (foundOf ns cs)).length ≤ (foundOf ns cs).length := List.length_filter_le _ _
      omega
theorem VN_t (vn : VN ns) (vc : VC cs) : VN (tN ns cs) where
  one := by unfold tN; rw [List.length_map]; exact vn.one
  four := by unfold tN; rw [List.length_map]; exact vn.four
  let_ := fun q hq => by
    obtain ⟨r, hr, rfl⟩ := List.mem_map.mp hq
    exact vn.let_ r hr
  asc := by unfold tN; rw [List.pairwise_map]; exact vn.asc
  pl := fun q hq => by
    obtain ⟨r, hr, rfl⟩ := List.mem_map.mp hq
    have := phi_bound vn vc r.2
    exact ⟨this.1, by show phiOf ns cs r.2 ≤ 999; omega⟩
theorem tC_keys (ns : Names) (cs : Cells) : (tC7 ns cs).map (·.1) = (List.range cs.length).map fun (i : Nat) => (i : Int) + 1 := by
  have W := M7.whole ns cs
  have h := M7.range_keys (arr cs) (foundOf ns cs) (strOf ns cs) cs.length (lostOf ns cs) (M7.flat_nodup W)
  rw [M7.flat_len W] at h
  have hcl := M7.come_len ns cs
  have e : (comeOf ns cs).length + lostOf ns cs = cs.length := by unfold M7.lostOf; omega
  rw [e] at h
  exact h
theorem tC_len (ns : Names) (cs : Cells) : (tC7 ns cs).length = cs.length := by
  have := congrArg List.length (tC_keys ns cs)
  simpa using this
theorem VC_t (vn : VN ns) (vc : VC cs) : VC (tC7 ns cs) where
  few := by rw [tC_len]; exact vc.few
  asc := by
    have h := tC_keys ns cs
    have h2 : ((tC7 ns cs).map (·.1)).Pairwise (· < ·) := by
      rw [h, List.pairwise_map]
      exact List.pairwise_lt_range.imp fun h => by omega
    rwa [List.pairwise_map] at h2
  pos := fun q hq => by
    have hfew := vc.few
    have h1 : q.1 ∈ (tC7 ns cs).map (·.1) := List.mem_map.mpr ⟨q, hq, rfl⟩
    rw [tC_keys] at h1
    obtain ⟨i, hi, e⟩ := List.mem_map.mp h1
    have hi := List.mem_range.mp hi
    have h2 : 0 ≤ q.2 ∧ q.2 ≤ 999 := by
      unfold tC7 canonCells at hq
      rcases List.mem_append.mp hq with hq | hq
      · obtain ⟨x, _, rfl⟩ := List.mem_map.mp hq
        have := phi_bound vn vc (((arr cs) x).getD 0)
        exact ⟨this.1, by show phiOf ns cs _ ≤ 999; omega⟩
      · obtain ⟨x, _, rfl⟩ := List.mem_map.mp hq
        exact ⟨by show (0 : Int) ≤ 0; decide, by show (0 : Int) ≤ 999; decide⟩
    exact ⟨by omega, by omega, h2.1, h2.2⟩
theorem plan_t (vc : VC cs) : knsOf (tN ns cs) (tC7 ns cs) = knsOf ns cs ∧ lenOf (tN ns cs) (tC7 ns cs) = lenOf ns cs ∧ lostOf (tN ns cs) (tC7 ns cs) = lostOf ns cs := by
  have := M7.canon_plan ns cs vc.zero
  exact ⟨this.1, this.2.1, this.2.2.1⟩
theorem lets_t (ns : Names) (cs : Cells) : letsOf (tN ns cs) = letsOf ns := by
  unfold letsOf tN
  rw [List.map_map]
  rfl
theorem lost_le (ns : Names) (cs : Cells) : lostOf ns cs ≤ cs.length := by unfold M7.lostOf; omega
theorem pu_tidy (T : Txt K mg cS cP) (vc : VC cs) (vn : VN ns) : Pu0 (p_tidy K cS cP) [StoR K cS ns cs] (StoR K cS (tN ns cs) (tC7 ns cs)) := pu_1 fun v w h Q q => by
  have hc := vc.few
  have hlo := lost_le ns cs
  have hsl := sum_lost ns cs
  have hst := pu_store_of (K := K) (cS := cS) (cP := cP) (lets := letsOf ns) (ls := lenOf ns cs) (lost := lostOf ns cs) T (knf_of vn vc) (lens_many ns cs) (fun l hl => by have := lens_pos hl; omega) (by omega) (by omega)
    (fun s hs => by
      rw [st_eq vc] at hs
      obtain ⟨x, _, rfl⟩ := List.mem_map.mp hs
      have := phi_bound vn vc x
      omega) (by rw [nn_eq vn vc]; exact VN_t vn vc) (by rw [cc_eq vc]; exact VC_t vn vc)
  rw [nn_eq vn vc, cc_eq vc] at hst
  exact st_ret (J := J0) (ev_cl (ea_cons (ev_cl (ea_cons (ev_var (v := v) rfl h) ea_nil) (pu_plan_of T vc vn).pu) ea_nil) hst.pu) q
/-- whether both stores have the same plan -/
def sameP (ns : Names) (cs : Cells) (ns' : Names) (cs' : Cells) : Bool := sameB (knsOf ns cs) (knsOf ns' cs') (lenOf ns cs) (lenOf ns' cs') (lostOf ns cs) (lostOf ns' cs')
theorem pu_alike (T : Txt K mg cS cP) (vc : VC cs) (vn : VN ns) (vc' : VC cs') (vn' : VN ns') : Pu0 (p_are_alike K cS cP) [StoR K cS ns cs, StoR K cS ns' cs'] (RB (sameP ns cs ns' cs')) := pu_2 fun v u w h hu Q q => by
  refine sq_drop (J := J0) (ev_cl (ea_cons (ev_var (v := v) rfl h) ea_nil) pu_check_store.pu) fun _ w1 e1 _ => ?_
  refine sq_drop (J := J0) (ev_cl (ea_cons (ev_var (v := u) rfl (Rp.mono _ e1.ef hu)) ea_nil) pu_check_store.pu) fun _ w2 e2 _ => ?_
  have l2 := e1.trans e2
  refine st_ret (J := J0) (ev_peq T (ev_cl (ea_cons (ev_var (v := v) rfl (Rp.mono _ l2.ef h)) ea_nil) (pu_plan_of T vc vn).pu) (ev_cl (ea_cons (ev_var (v := u) rfl (Rp.mono _ l2.ef hu)) ea_nil) (pu_plan_of T vc' vn').pu)) fun vr wr er hr => q vr wr (l2.trans er) hr
end
end Z
end

section -- P21
set_option Elab.async false
set_option linter.all false
set_option maxRecDepth 100000
set_option maxHeartbeats 4000000
set_option autoImplicit false
namespace Z
open PySem PySem.Spec L2 K07
open M7 (Names Cells Kn Kd arr headsOf comeOf knotK knotL foundOf strOf knsOf lenOf lostOf cellKnots wayGo lawCome lawFound addAll isL cnt)
section
variable {J : Addr → Prop} {σ : St} {w w0 w1 : Wd} {ta tb tc t te : TE} {ts : TA} {K : PySem.W.Frag} {cS cP : Addr} {mg : PySem.Str → Option Value} {D : Ends} {sa rest : TS} {g g1 : TG} {i j k m : Nat} {R Ra Rb Rc : Rp} {Rs Ss : List Rp} {ns ns' : Names} {cs cs' : Cells}
/-- a loop that may break -/
theorem sq_forB {wi : TI} {n : Nat} {P : Nat → Rp} (hs : Src J wi σ w n P) (inv : Nat → St → Wd → Prop) (h0 : ∀ w1, Le J w w1 → inv 0 σ w1)
    (step : ∀ i σ1 w1, i < n → inv i σ1 w1 → ∀ x w2, Le J w1 w2 → (P i).r w2.f x → ∀ Kk : St → Hp → Prop, (∀ σ' w', Exf w1.f w'.f → inv (i + 1) σ' w' → Kk σ' w'.h) → g x σ1 w2.h fun σ2 H2 => sa { nx := Kk, rt := D.rt, ct := Kk, bk := rest D } σ2 H2)
    (done : ∀ σ1 w1, inv n σ1 w1 → rest D σ1 w1.h) : tSeq (tFor wi g sa) rest D σ w.h :=
  st_for (D := { D with nx := rest D }) hs inv h0 step done
theorem inV_ints (p : Int) (s : List Int) : inV (.int p) (s.map V.int) = decide (p ∈ s) := by
  unfold inV
  induction s with
  | nil => rfl
  | cons a s ih =>
    rw [List.map_cons, List.any_cons, ih]
    show ((a == p) || decide (p ∈ s)) = decide (p ∈ a :: s)
    by_cases h : a = p
    · subst h; simp
    · have h2 : ¬ p = a := fun e => h e.symm
      simp [h, h2]
theorem flat_ints (s : List Int) : (s.map V.int).all flatV = true := by
  rw [List.all_map, List.all_eq_true]
  intro x _
  rfl
theorem ev_inO {l : Addr} {s : List Int} {p : Int} (neg : Bool) (hl : Own w l (.lst (s.map V.int))) (hj : ¬ J l) (hv : σ[i]? = some (some (.ref l))) (ha : Ev J ta σ w (RI p)) : Ev J (tOp (rIn K neg) ta (tVar i)) σ w (RB (if neg then !decide (p ∈ s) else decide (p ∈ s))) := fun w' e Q q =>
  ha w' e _ fun x w1 e1 hx => ⟨.ref l, hv, l, s.map V.int, rfl, .inl (.inl (.inl (hl.le (e.trans e1) hj).h)), by rw [hx]; rfl, flat_ints s, q _ w1 e1 (by rw [hx, inV_ints]; rfl)⟩
theorem ev_inL {s : List Int} {p : Int} (neg : Bool) (ha : Ev J ta σ w (RI p)) (hb : Ev J tb σ w (LstR K (s.map RI))) : Ev J (tOp (rIn K neg) ta tb) σ w (RB (if neg then !decide (p ∈ s) else decide (p ∈ s))) := fun w' e Q q =>
  ha w' e _ fun x w1 e1 hx => hb w1 (e.trans e1) _ fun y w2 e2 ⟨a, xs, h1, h2, h3⟩ => by
    have := allR_ints.mp h3
    subst this
    exact ⟨a, s.map V.int, h1, .inl (sqL_h w2 h2), by rw [hx]; rfl, flat_ints s, q _ w2 (e1.trans e2) (by rw [hx, inV_ints]; rfl)⟩
theorem ev_lenD {kvs : List (Key × V)} (h : Ev J ta σ w (DicR kvs)) : Ev J (tCB rLenD (tCons ta tNil)) σ w (RI kvs.length) := fun w' e Q q => h w' e _ fun v w1 e1 ⟨a, h1, h2⟩ => ⟨a, kvs, by rw [h1], w1.ok _ _ h2, q _ w1 e1 rfl⟩
theorem kvsOf_put {cs : Cells} (hn : (cs.map (·.1)).Nodup) {n : Nat} (h : n < cs.length) : putK (kvsOf (cs.take n)) (.inl cs[n].1) (.int cs[n].2) = kvsOf (cs.take (n + 1)) := by
  have hv : valV (kvsOf (cs.take n)) (.inl cs[n].1) = none := by
    rw [val_kvs]
    have : arr (cs.take n) cs[n].1 = none := M7.lookup_none fun q hq => by
      obtain ⟨j, hj, e⟩ := List.mem_take_iff_getElem.mp hq
      have h1 : (cs.map (·.1))[j]'(by simp; omega) = (cs.map (·.1))[n]'(by simp; omega) := by simp [e]
      have := (List.getElem_inj hn).mp h1
      omega
    rw [this]
    rfl
  rw [putK_new _ hv, List.take_succ_eq_append_getElem h]
  unfold kvsOf
  rw [List.map_append]
  rfl
theorem pu_law_arrows (vc : VC cs) : Pu0 (p_law_arrows K cS cP) [TupD K (cs.map clD)] (DicR (kvsOf cs)) := pu_1 fun v w h Q q => by
  have hfew := vc.few
  refine sq_asgN (J := J0) en_dic fun d o w1 e1 hd own1 ho => ?_
  subst ho
  have hsrc := src_tup (J := J0) (K := K) (ev_var (σ := [some v, some (.ref d), none, none]) (i := 0) (w := w1) (R := TupR K (cs.map (clR K))) (v := v) rfl (cls_of (Rp.mono _ e1.ef h)))
  rw [List.length_map] at hsrc
  refine sq_for (J := J0) hsrc (fun i σ1 w2 => Le J0 w w2 ∧ ∃ x2 x3, σ1 = [some v, some (.ref d), x2, x3] ∧ Own w2 d (.dK (kvsOf (cs.take i))))
    (fun w2 e2 => ⟨e1.trans e2, none, none, rfl, own1.le0 e2⟩) ?_ ?_
  · rintro i σ1 w2 hi ⟨l2, x2, x3, rfl, od⟩ z w3 e3 hz Kk bk hK
    rw [getD_map hi] at hz
    refine g_two hz fun a b ha hb => ?_
    cases ha
    cases hb
    show sDPut _ _ _ _ [some v, some (.ref d), some (.int cs[i].1), some (.int cs[i].2)] w3.h
    refine st_setD (J := J0) (x := .inl cs[i].1) (od.le0 e3) id rfl (ev_is (v := .int cs[i].1) rfl) (R := RI cs[i].2) (ev_is rfl) (by unfold kvsOf; simp; omega) fun u4 w4 w5 e4 hu4 m5 => ?_
    cases hu4
    have o4 := (od.le0 e3).le0 e4
    have o5 := m5.own o4.f
    rw [kvsOf_put vc.nodup hi] at o5
    exact hK _ w5 (fun p o h => m5.ef p o (e4.ef p o (e3.ef p o h))) ⟨((l2.trans e3).trans e4).mt m5 hd o4.f, _, _, rfl, o5⟩
  rintro σ1 w2 ⟨l2, x2, x3, rfl, od⟩
  rw [List.take_length] at od
  exact ⟨.ref d, rfl, q _ (w2.pub d _ od.h) (l2.pub hd od.h) ⟨d, rfl, pub_at od.h⟩⟩
def wayR (K : PySem.W.Frag) (cs : Cells) (p : Int) : Rp := TupR K [LsX ((wayGo (arr cs) (cs.length + 1) [] p).1.map RI), RI (wayGo (arr cs) (cs.length + 1) [] p).2]
theorem pu_gone_along (vc : VC cs) (p : Int) : Pu0 (p_law_gone_along K cS cP) [DicR (kvsOf cs), RI p] (wayR K cs p) := pu_2 fun v u w h hu Q q => by
  cases hu
  obtain ⟨r, hr⟩ : ∃ r, wayGo (arr cs) (cs.length + 1) [] p = r := ⟨_, rfl⟩
  have hfew := vc.few
  refine st_par (en_lst (J := J0) ea_nil (by simp) w .rfl _ fun l o w1 e1 hl own1 ⟨xs, ho, hxs⟩ => ⟨.int p, rfl, ?_⟩)
  cases hxs.nil_inv
  subst ho
  have hd : ∀ {x1 x2 x3 x4 : Option V} {w' : Wd}, Le J0 w w' → Ev J0 (tVar 0) [some v, x1, x2, x3, x4] w' (DicR (kvsOf cs)) := fun e => ev_var (v := v) rfl (Rp.mono _ e.ef h)
  have hkl : (kvsOf cs).length = cs.length := by simp [kvsOf]
  show tSeq _ _ _ [some v, some (.int p), some (.ref l), some (.int p), none] w1.h
  have hrng := src_rng1 (J := J0) (σ := [some v, some (.int p), some (.ref l), some (.int p), none]) (w := w1) (te := tOp rAddI (tCB rLenD (tCons (tVar 0) tNil)) (tC (.int 1))) (n := (cs.length : Int) + 1) ((ev_add (ev_lenD (hd e1)) ev_cv).of (by rw [hkl])) (by omega) (by omega)
  have hcnt : ((cs.length : Int) + 1).toNat = cs.length + 1 := by omega
  rw [hcnt] at hrng
  have fin : ∀ (s : List Int) (e : Int) (x4 : Option V) (w2 : Wd), Le J0 w w2 → Own w2 l (.lst (s.map V.int)) → (s, e) = r → tRet (tTup (tCons (tVar 2) (tCons (tVar 3) tNil))) { nx := fun _ H' => Q .non H', rt := Q } [some v, some (.int p), some (.ref l), some (.int e), x4] w2.h := fun s e x4 w2 l2 o2 he => by
    have lp : Le J0 w (w2.pub l _ o2.h) := l2.pub hl o2.h
    have hx : (LsX (s.map RI)).r (w2.pub l _ o2.h).f (.ref l) := ⟨l, _, rfl, pub_at o2.h, allR_ints.mpr rfl⟩
    show tRet (tTup (tCons (tVar 2) (tCons (tVar 3) tNil))) { nx := fun _ H' => Q .non H', rt := Q } [some v, some (.int p), some (.ref l), some (.int e), x4] (w2.pub l _ o2.h).h
    refine st_ret (J := J0) (R := wayR K cs p) ?_ fun vr wr er hr => q vr wr (lp.trans er) hr
    unfold wayR
    rw [hr, ← he]
    exact ev_tup (ea_cons (ev_var (v := .ref l) rfl hx) (ea_cons (ev_is rfl) ea_nil)) (by simp)
  refine sq_forB (J := J0) hrng (fun i σ1 w2 => Le J0 w w2 ∧ ∃ s e x4, σ1 = [some v, some (.int p), some (.ref l), some (.int e), x4] ∧ Own w2 l (.lst (s.map V.int)) ∧ wayGo (arr cs) (cs.length + 1 - i) s e = r ∧ s.length ≤ i)
    (fun w2 e2 => ⟨e1.trans e2, [], p, none, rfl, own1.le0 e2, hr, Nat.le_refl _⟩) ?_ ?_
  · rintro i σ1 w2 hi ⟨l2, s, e, x4, rfl, own2, hw, hsl⟩ z w3 e3 hz Kk hK
    cases hz
    have l3 := l2.trans e3
    have own3 := own2.le0 e3
    show tSeq _ _ _ [some v, some (.int p), some (.ref l), some (.int e), some (.int i)] w3.h
    have hn : cs.length + 1 - i = (cs.length - i) + 1 := by omega
    rw [hn] at hw
    unfold wayGo at hw
    refine st_ifS (J := J0) (et_or (a := !(valV (kvsOf cs) (.inl e)).isSome) (b := decide (e ∈ s)) (et_b (ev_dni (x := .inl e) (hd l3) (ev_is (v := .int e) rfl))) (fun _ => et_test (ev_inO false own3 id rfl (ev_is rfl))) rfl) (fun hb w4 e4 => ?_) (fun hb w4 e4 => ?_)
    · have hfin : (s, e) = r → _ := fin s e (some (.int i)) w4 (l3.trans e4) (own3.le0 e4)
      refine hfin ?_
      rw [← hw]
      rw [val_kvs] at hb
      cases hq : arr cs e with
      | none => rfl
      | some q' =>
        rw [hq] at hb
        have : e ∈ s := by simpa using hb.symm
        simp only [if_pos this]
    · rw [val_kvs] at hb
      cases hq : arr cs e with
      | none => rw [hq] at hb; simp at hb
      | some q' =>
        rw [hq] at hb hw
        have hns : e ∉ s := by simpa using hb.symm
        simp only [if_neg hns] at hw
        show tSeq _ _ _ [some v, some (.int p), some (.ref l), some (.int e), some (.int i)] w4.h
        refine st_app (J := J0) (R := RI e) (own3.le0 e4) id rfl (ev_is rfl) (by rw [List.length_map]; omega) fun u5 w5 w6 e5 h5 m6 => ?_
        cases h5
        have own5 := (own3.le0 e4).le0 e5
        have own6 := m6.own own5.f
        have l6 := ((l3.trans e4).trans e5).mt m6 hl own5.f
        refine st_asg (J := J0) (ev_dget (R := RI q') (v := .int q') (x := .inl e) (hd l6) (ev_is (v := .int e) rfl) (by rw [val_kvs, hq]; rfl) fun _ _ => rfl) fun u7 w7 e7 h7 => ?_
        cases h7
        refine hK _ w7 (fun p o h => e7.ef p o (m6.ef p o (e5.ef p o (e4.ef p o (e3.ef p o h))))) ⟨l6.trans e7, s ++ [e], q', _, rfl, by rw [List.map_append]; exact own6.le0 e7, ?_, by rw [List.length_append, List.length_singleton]; omega⟩
        have : cs.length + 1 - (i + 1) = cs.length - i := by omega
        rw [this]
        exact hw
  · rintro σ1 w2 ⟨l2, s, e, x4, rfl, own2, hw, hsl⟩
    refine fin s e x4 w2 l2 own2 ?_
    rw [← hw, Nat.sub_self]
    rfl
end
end Z
end

section -- P22
set_option Elab.async false
set_option linter.all false
set_option maxRecDepth 100000
set_option maxHeartbeats 4000000
set_option autoImplicit false
namespace Z
open PySem PySem.Spec L2 K07
open M7 (Names Cells Kn Kd arr headsOf comeOf knotK knotL foundOf strOf knsOf lenOf lostOf cellKnots wayGo lawCome lawFound addAll isL cnt)
section
variable {J : Addr → Prop} {σ : St} {w w0 w1 : Wd} {ta tb tc t te : TE} {ts : TA} {K : PySem.W.Frag} {cS cP : Addr} {mg : PySem.Str → Option Value} {D : Ends} {sa rest : TS} {g g1 : TG} {i j k m : Nat} {R Ra Rb Rc : Rp} {Rs Ss : List Rp} {ns ns' : Names} {cs cs' : Cells}
/-- a, b, c = [], {}, [] -/
theorem sq_tup3N (q : ∀ p d l w', Le J0 w w' → w.h p = none → w.h d = none → w.h l = none → d ≠ p → l ≠ p → l ≠ d → Own w' p (.lst []) → Own w' d (.dK []) → Own w' l (.lst []) → rest D (((σ.set i (some (.ref p))).set j (some (.ref d))).set k (some (.ref l))) w'.h) :
    tSeq (tAsg (tTup (tCons (tLst tNil) (tCons tDNewK (tCons (tLst tNil) tNil)))) (gTup K 3 (gCons (gName i) (gCons (gName j) (gCons (gName k) gNil))))) rest D σ w.h := by
  show tLst tNil σ w.h fun x H1 => tDNewK σ H1 fun y H2 => tLst tNil σ H2 fun z H3 => [x, y, z].length ≤ sizeLine ∧ ∀ p, H3 p = none → gTup K 3 (gCons (gName i) (gCons (gName j) (gCons (gName k) gNil))) (.ref p) σ (upd H3 p (.tup [x, y, z])) (rest D)
  refine en_lst (J := J0) ea_nil (by simp) w .rfl _ fun p o w1 e1 hp own1 ⟨xs, ho, hxs⟩ => en_dic (J := J0) w1 .rfl _ fun d o' w2 e2 hd own2 ho' => en_lst (J := J0) (w := w2) ea_nil (by simp) w2 .rfl _ fun l o'' w3 e3 hl own3 ⟨ys, ho'', hys⟩ => ?_
  cases hxs.nil_inv
  cases hys.nil_inv
  subst ho
  subst ho'
  subst ho''
  refine ⟨by show 3 ≤ sizeLine; decide, fun p2 hp2 => ?_⟩
  refine ⟨p2, _, rfl, .inl (.inl upd_same), rfl, _, _, rfl, _, _, rfl, _, _, rfl, rfl, ?_⟩
  refine q p d l (w3.new p2 _) (((e1.trans e2).trans e3).trans (Le.new hp2)) hp (e1.fresh hd) ((e1.trans e2).fresh hl) (fun z => ?_) (fun z => ?_) (fun z => ?_) (own_new ((own1.le0 e2).le0 e3) hp2) (own_new (own2.le0 e3) hp2) (own_new own3 hp2)
  · subst z; rw [own1.h] at hd; cases hd
  · subst z; rw [(own1.le0 e2).h] at hl; cases hl
  · subst z; rw [own2.h] at hl; cases hl
theorem come_mono {f : M7.Fn} {N : Nat} : ∀ (ps c : List Int), c.length ≤ (lawCome f N ps c).length
  | [], c => Nat.le_refl _
  | p :: ps, c => by
    have := come_mono (f := f) (N := N) ps (c ++ (wayGo f N [] p).1.filter fun x => !c.contains x)
    simp only [lawCome]
    rw [List.length_append] at this
    omega
theorem add_mono {L : Int → Bool} : ∀ (xs fd : List Int), fd.length ≤ (addAll L xs fd).length
  | [], fd => Nat.le_refl _
  | x :: xs, fd => by
    have := add_mono (L := L) xs (if !fd.contains x && L x then fd ++ [x] else fd)
    have h2 : fd.length ≤ (if !fd.contains x && L x then fd ++ [x] else fd).length := by split <;> simp
    show fd.length ≤ (addAll L xs (if !fd.contains x && L x then fd ++ [x] else fd)).length
    omega
theorem found_mono {f : M7.Fn} {L : Int → Bool} {N : Nat} : ∀ (ps fd : List Int), fd.length ≤ (lawFound f L N ps fd).length
  | [], fd => Nat.le_refl _
  | p :: ps, fd => by
    have h1 := found_mono (f := f) (L := L) (N := N) ps (addAll L ((wayGo f N [] p).1 ++ [(wayGo f N [] p).2]) fd)
    have h2 := add_mono (L := L) ((wayGo f N [] p).1 ++ [(wayGo f N [] p).2]) fd
    simp only [lawFound]
    omega
theorem heads_drop {i : Nat} (h : i < ns.length) : (headsOf ns).drop i = ns[i].2 :: (headsOf ns).drop (i + 1) := by
  have hi2 : i < (headsOf ns).length := by simpa [headsOf] using h
  rw [List.drop_eq_getElem_cons hi2]
  simp [headsOf]
theorem way_len (vc : VC cs) (p : Int) : (wayGo (arr cs) (cs.length + 1) [] p).1.length ≤ 90 := by
  have hw := M7.way_is (M7.arr_fin cs) (N := cs.length + 1) (by simp) p
  have := M7.path_len (M7.arr_fin cs) hw.path hw.nodup
  have := vc.few
  simp at *
  omega
theorem sub_filter {c l : List Int} {F : Nat → Bool} {G : Nat → Rp} (hF : ∀ i (h : i < l.length), F i = !decide (l[i] ∈ c)) (hG : ∀ i (h : i < l.length), G i = RI l[i]) : keptR l.length F G = (l.filter fun x => !c.contains x).map RI := by
  rw [keptR_map (f := fun x => !c.contains x) (E := RI) (fun i h => by rw [hF i h, List.contains_eq_mem]) hG]
theorem pu_law_knots (T : Txt K mg cS cP) (vc : VC cs) (vn : VN ns) : Pu0 (p_law_knots K cS cP) [TupD K (ns.map nmD), DicR (kvsOf cs)] (TupR K [LstR K ((foundOf ns cs).map RI), LstR K ((comeOf ns cs).map RI)]) := pu_2 fun v u w h hu Q q => by
  have hfew := vc.few
  have h4 := vn.four
  have hcl := M7.come_len ns cs
  have hff := found_few vc vn
  have C := M7.come_is ns cs
  have hnames : ∀ {x1 x2 x3 x4 x5 x6 x7 x8 x9 x10 x11 : Option V} {w' : Wd}, Le J0 w w' → Ev J0 (tVar 0) [some v, x1, x2, x3, x4, x5, x6, x7, x8, x9, x10, x11] w' (TupR K (ns.map (nmR K))) := fun e => ev_var (v := v) rfl (nms_of (Rp.mono _ e.ef h))
  have hd : ∀ {x0 x2 x3 x4 x5 x6 x7 x8 x9 x10 x11 : Option V} {w' : Wd}, Le J0 w w' → Ev J0 (tVar 1) [x0, some u, x2, x3, x4, x5, x6, x7, x8, x9, x10, x11] w' (DicR (kvsOf cs)) := fun e => ev_var (v := u) rfl (Rp.mono _ e.ef hu)
  have hnl : (ns.map (nmR K)).length = ns.length := List.length_map _
  refine sq_tup3N fun pc d l w1 e1 hpc hd0 hl0 ndp nlp nld ownc ownd ownl => ?_
  have e1p : Le J0 w (w1.pub pc _ ownc.h) := e1.pub hpc ownc.h
  have ownd' := ownd.pub ownc.h ndp
  have ownl' := ownl.pub ownc.h nlp
  have hc0 : (LsX (([] : List Int).map RI)).r (w1.pub pc _ ownc.h).f (.ref pc) := ⟨pc, _, rfl, pub_at ownc.h, trivial⟩
  show tSeq (tFor (iTup K (tVar 0)) (gTup K 2 (gCons (gName 5) (gCons (gName 6) gNil))) (tAsg (tOp rCat (tVar 2) (tLc (iList K (tOp (rIxT K) (tCl (p_law_gone_along K cS cP) (tCons (tVar 1) (tCons (tVar 6) tNil))) (tC (.int 0)))) (gName 7) (tTest (tOp (rIn K true) (tVar 7) (tVar 2))) (tVar 7) [7])) (gName 2))) _ { nx := fun _ H' => Q .non H', rt := Q } [some v, some u, some (.ref pc), some (.ref d), some (.ref l), none, none, none, none, none, none, none] (w1.pub pc _ ownc.h).h
  generalize w1.pub pc _ ownc.h = w1 at e1p ownd' ownl' hc0
  refine sq_for (J := J0) (hnl ▸ src_tup (hnames e1p)) (fun i σ1 w2 => Le J0 w w2 ∧ ∃ (c : List Int), ∃ vc x5 x6, σ1 = [some v, some u, some vc, some (.ref d), some (.ref l), x5, x6, none, none, none, none, none] ∧ (LsX (c.map RI)).r w2.f vc ∧ Own w2 d (.dK []) ∧ Own w2 l (.lst []) ∧ lawCome (arr cs) (cs.length + 1) ((headsOf ns).drop i) c = comeOf ns cs)
    (fun w2 e2 => ⟨e1p.trans e2, [], .ref pc, none, none, rfl, Rp.mono _ e2.ef hc0, ownd'.le0 e2, ownl'.le0 e2, rfl⟩) ?_ ?_
  · rintro i σ1 w2 hi ⟨l2, c, vv, x5, x6, rfl, hv2, od, ol, hcome⟩ z w3 e3 hz Kk bk hK
    rw [getD_map hi] at hz
    refine g_two hz fun a b ha hb => ?_
    cases hb
    rw [heads_drop hi] at hcome
    simp only [lawCome] at hcome
    have hclen : c.length ≤ 90 := by
      have h1 := come_mono (f := arr cs) (N := cs.length + 1) ((headsOf ns).drop (i + 1)) (c ++ (wayGo (arr cs) (cs.length + 1) [] ns[i].2).1.filter fun x => !c.contains x)
      rw [hcome, List.length_append] at h1
      omega
    have l3 := l2.trans e3
    show tAsg _ _ _ [some v, some u, some vv, some (.ref d), some (.ref l), some a, some (.int ns[i].2), none, none, none, none, none] w3.h
    have hvc : ∀ {x7 : Option V} {w' : Wd}, Le J0 w3 w' → Ev J0 (tVar 2) [some v, some u, some vv, some (.ref d), some (.ref l), some a, some (.int ns[i].2), x7, none, none, none, none] w' (LsX (c.map RI)) := fun e => ev_var (v := vv) rfl (Rp.mono _ (e3.trans e).ef hv2)
    have hsrc := src_list (K := K) (J := J0) (te := tOp (rIxT K) (tCl (p_law_gone_along K cS cP) (tCons (tVar 1) (tCons (tVar 6) tNil))) (tC (.int 0))) (σ := [some v, some u, some vv, some (.ref d), some (.ref l), some a, some (.int ns[i].2), none, none, none, none, none]) (w := w3) (Rs := (wayGo (arr cs) (cs.length + 1) [] ns[i].2).1.map RI)
      ((ev_ixT (n := 0) (Rs := [LsX ((wayGo (arr cs) (cs.length + 1) [] ns[i].2).1.map RI), RI (wayGo (arr cs) (cs.length + 1) [] ns[i].2).2]) (ev_cl (ea_cons (hd l3) (ea_cons (ev_is (v := .int ns[i].2) rfl) ea_nil)) (pu_gone_along vc ns[i].2).pu) ev_cv rfl).imp fun _ _ _ => lsX_lst)
    rw [List.length_map] at hsrc
    have hcomp := ev_lc1 (te := tVar 7) (tt := tTest (tOp (rIn K true) (tVar 7) (tVar 2))) (i := 7) (fun k => ((wayGo (arr cs) (cs.length + 1) [] ns[i].2).1[k]?.map fun x => !decide (x ∈ c)).getD false) (fun k => ((wayGo (arr cs) (cs.length + 1) [] ns[i].2).1.map RI).getD k (Is .non)) hsrc (by have := way_len vc ns[i].2; omega)
      (fun k w4 hk e4 x hx => by
        rw [getD_map hk] at hx ⊢
        cases hx
        refine ⟨?_, fun _ => ev_is rfl⟩
        have e0 : ((wayGo (arr cs) (cs.length + 1) [] ns[i].2).1[k]?.map fun x => !decide (x ∈ c)).getD false = !decide ((wayGo (arr cs) (cs.length + 1) [] ns[i].2).1[k] ∈ c) := by simp [hk]
        rw [e0]
        exact et_test (ev_inL true (ev_is rfl) ((hvc (x7 := some (.int (wayGo (arr cs) (cs.length + 1) [] ns[i].2).1[k])) e4).imp fun _ _ _ => lsX_lst))) fun _ _ => id
    rw [sub_filter (c := c) (fun k hk => by simp [hk]) (fun k hk => getD_map hk)] at hcomp
    have hcat := en_cat (J := J0) (fun _ _ => id) (evh_x (hvc (x7 := none) .rfl)) (evh_n (fun _ _ => id) hcomp) (by
      have h1 := List.length_filter_le (fun x => !c.contains x) (wayGo (arr cs) (cs.length + 1) [] ns[i].2).1
      have h2 := way_len vc ns[i].2
      simp only [List.length_map]
      omega)
    refine st_asg (J := J0) (en_lsX hcat) fun u4 w4 e4 h4 => ?_
    rw [← List.map_append] at h4
    exact hK _ w4 (fun p o h => e4.ef p o (e3.ef p o h)) ⟨l3.trans e4, _, u4, _, _, rfl, h4, (od.le0 e3).le0 e4, (ol.le0 e3).le0 e4, hcome⟩
  rintro σ1 w2 ⟨l2, c, vv, x5, x6, rfl, hv2, od, ol, hcome⟩
  have hdn : (headsOf ns).drop ns.length = [] := by simp [headsOf]
  rw [hdn] at hcome
  have hcome : c = comeOf ns cs := hcome
  subst hcome
  have hvv : ∀ {x0 x1 x3 x4 x5 x6 x7 x8 x9 x10 x11 : Option V} {w' : Wd}, Exf w2.f w'.f → Ev J0 (tVar 2) [x0, x1, some vv, x3, x4, x5, x6, x7, x8, x9, x10, x11] w' (LstR K ((comeOf ns cs).map RI)) := fun e => ev_var (v := vv) rfl (lsX_lst (Rp.mono _ e hv2))
  have hcml : ((comeOf ns cs).map RI).length = (comeOf ns cs).length := List.length_map _
  refine sq_for (J := J0) (hcml ▸ src_list (hvv fun _ _ h => h)) (fun n σ1 w3 => Le J0 w w3 ∧ Exf w2.f w3.f ∧ ∃ es x7, σ1 = [some v, some u, some vv, some (.ref d), some (.ref l), x5, x6, x7, none, none, none, none] ∧ Own w3 d (.dK es) ∧ Own w3 l (.lst []) ∧ CntD (arr cs) ((comeOf ns cs).take n) es)
    (fun w3 e3 => ⟨l2.trans e3, e3.ef, [], none, rfl, od.le0 e3, ol.le0 e3, ⟨fun x => by simp [valV_nil, cnt], by simp, by simp⟩⟩) ?_ ?_
  · rintro n σ1 w3 hn ⟨l3, ef3, es, x7, rfl, oe, ol, cd⟩ z w4 e4 hz Kk bk hK
    rw [getD_map hn] at hz
    cases hz
    obtain ⟨⟨a, ha⟩, _⟩ := (C.mem _).mp (List.getElem_mem hn)
    have l4 := l3.trans e4
    have hget : (valV es (.inl a)).getD (.int 0) = .int (cnt (arr cs) ((comeOf ns cs).take n) a) := by
      rw [cd.val]
      split
      · next h => rw [h]; rfl
      · rfl
    have hda : ∀ {w' : Wd}, Le J0 w w' → Ev J0 (tDGet (tVar 1) (tVar 7)) [some v, some u, some vv, some (.ref d), some (.ref l), x5, x6, some (.int (comeOf ns cs)[n]), none, none, none, none] w' (RI a) := fun e => ev_dget (R := RI a) (v := .int a) (x := .inl (comeOf ns cs)[n]) (hd e) (ev_is (v := .int (comeOf ns cs)[n]) rfl) (by rw [val_kvs, ha]; rfl) fun _ _ => rfl
    show sDPut _ _ _ _ [some v, some u, some vv, some (.ref d), some (.ref l), x5, x6, some (.int (comeOf ns cs)[n]), none, none, none, none] w4.h
    refine st_setD (J := J0) (x := .inl a) (oe.le0 e4) id rfl (hda l4) (R := RI (cnt (arr cs) ((comeOf ns cs).take n) a + 1)) (ev_add (a := cnt (arr cs) ((comeOf ns cs).take n) a) (b := 1) (ev_dget2O (x := .inl a) (v := .int 0) (oe.le0 e4) id rfl (hda l4) ev_cv hget) ev_cv) (by have := cd.len; rw [List.length_take] at this; omega) fun u5 w5 w6 e5 hu5 m6 => ?_
    cases hu5
    have o5 := (oe.le0 e4).le0 e5
    refine hK _ w6 (fun p o h => m6.ef p o (e5.ef p o (e4.ef p o h))) ⟨(l4.trans e5).mt m6 hd0 o5.f, fun p o h => m6.ef p o (e5.ef p o (e4.ef p o (ef3 p o h))), _, _, rfl, m6.own o5.f, ((ol.le0 e4).le0 e5).mt m6 nld, ?_⟩
    rw [List.take_succ_eq_append_getElem hn]
    exact cd.snoc ha
  rintro σ1 w3 ⟨l3, ef3, es, x7, rfl, oe, ol, cd⟩
  rw [List.take_length] at cd
  -- heads
  have hheads : Ev J0 (tLc (iTup K (tVar 0)) (gTup K 2 (gCons (gName 5) (gCons (gName 6) gNil))) tYes (tVar 6) [5, 6]) [some v, some u, some vv, some (.ref d), some (.ref l), x5, x6, x7, none, none, none, none] w3 (LstR K ((headsOf ns).map RI)) := by
    have hsrc := src_tup (hnames (x1 := some u) (x2 := some vv) (x3 := some (.ref d)) (x4 := some (.ref l)) (x5 := x5) (x6 := x6) (x7 := x7) (x8 := none) (x9 := none) (x10 := none) (x11 := none) l3)
    rw [hnl] at hsrc
    have key : keptR ns.length (fun _ => true) (fun a => RI ((ns[a]?.map (·.2)).getD 0)) = (headsOf ns).map RI := by
      rw [keptR_all]
      refine List.ext_getElem (by simp [headsOf]) fun a h1 h2 => ?_
      have ha : a < ns.length := by simpa using h1
      simp [headsOf, ha]
    rw [← key]
    refine en_lstR (ev_lc2 (A := fun a => RS (chr ((ns[a]?.map (·.1)).getD 0))) (B := fun a => RI ((ns[a]?.map (·.2)).getD 0)) _ _ hsrc (fun a f v ha hv => ?_) (by omega) (fun _ _ => rfl) (fun a w1 ha e1 x y hx hy => ⟨et_yes, fun _ => ?_⟩) fun _ _ => id)
    · rw [getD_map ha] at hv
      simpa [ha, nmR] using hv
    · cases hy
      exact ev_is rfl
  refine sq_asg (J := J0) hheads fun vh w4 e4 hh => ?_
  have l4 := l3.trans e4
  have ef4 : Exf w2.f w4.f := fun p o h => e4.ef p o (ef3 p o h)
  show tSeq _ _ _ [some v, some u, some vv, some (.ref d), some (.ref l), x5, x6, x7, some vh, none, none, none] w4.h
  refine sq_for (J := J0) (hnl ▸ src_tup (hnames l4)) (fun i σ1 w5 => Le J0 w w5 ∧ Exf w4.f w5.f ∧ ∃ (fd : List Int), ∃ x5 x6 x9 x10 x11, σ1 = [some v, some u, some vv, some (.ref d), some (.ref l), x5, x6, x7, some vh, x9, x10, x11] ∧ Own w5 d (.dK es) ∧ Own w5 l (.lst (fd.map V.int)) ∧ lawFound (arr cs) (knotL ns cs) (cs.length + 1) ((headsOf ns).drop i) fd = foundOf ns cs)
    (fun w5 e5 => ⟨l4.trans e5, e5.ef, [], x5, x6, none, none, none, rfl, (oe.le0 e4).le0 e5, (ol.le0 e4).le0 e5, rfl⟩) ?_ ?_
  · rintro i σ1 w5 hi ⟨l5, ef5, fd, y5, y6, x9, x10, x11, rfl, oe5, ol5, hfd⟩ z w6 e6 hz Kk bk hK
    rw [getD_map hi] at hz
    refine g_two hz fun a b ha hb => ?_
    cases hb
    rw [heads_drop hi] at hfd
    simp only [lawFound] at hfd
    have l6 := l5.trans e6
    show tSeq _ _ _ [some v, some u, some vv, some (.ref d), some (.ref l), some a, some (.int ns[i].2), x7, some vh, x9, x10, x11] w6.h
    refine sq_asgG (J := J0) (ev_cl (ea_cons (hd l6) (ea_cons (ev_is (v := .int ns[i].2) rfl) ea_nil)) (pu_gone_along vc ns[i].2).pu) fun vw w7 e7 hw => g_two hw fun va vb hva hvb => ?_
    cases hvb
    have hwl := way_len vc ns[i].2
    generalize hway : wayGo (arr cs) (cs.length + 1) [] ns[i].2 = way at hva hfd hwl
    have l7 := l6.trans e7
    show tFor _ _ _ _ [some v, some u, some vv, some (.ref d), some (.ref l), some a, some (.int ns[i].2), x7, some vh, some va, some (.int way.2), x11] w7.h
    have hcat := en_cat (J := J0) (σ := [some v, some u, some vv, some (.ref d), some (.ref l), some a, some (.int ns[i].2), x7, some vh, some va, some (.int way.2), x11]) (w := w7) (ta := tVar 9) (tb := tLst (tCons (tVar 10) tNil)) (fun _ _ => id) (evh_x (ev_var (i := 9) (R := LsX (way.1.map RI)) (v := va) rfl hva)) (evh_n (fun _ _ => id) (en_lst (ea_cons (ev_is (i := 10) (v := .int way.2) rfl) ea_nil) (by simp))) (by simp only [List.length_map, List.length_cons, List.length_nil]; omega)
    have hcat2 : Ev J0 (tOp rCat (tVar 9) (tLst (tCons (tVar 10) tNil))) [some v, some u, some vv, some (.ref d), some (.ref l), some a, some (.int ns[i].2), x7, some vh, some va, some (.int way.2), x11] w7 (LstR K ((way.1 ++ [way.2]).map RI)) := by
      rw [List.map_append]
      exact en_lstR hcat
    have hsrc := src_list hcat2
    rw [List.length_map] at hsrc
    refine st_for (J := J0) hsrc (fun j σ1 w8 => Le J0 w w8 ∧ Exf w4.f w8.f ∧ Exf w5.f w8.f ∧ ∃ (fd2 : List Int), ∃ x11, σ1 = [some v, some u, some vv, some (.ref d), some (.ref l), some a, some (.int ns[i].2), x7, some vh, some va, some (.int way.2), x11] ∧ Own w8 d (.dK es) ∧ Own w8 l (.lst (fd2.map V.int)) ∧ addAll (knotL ns cs) ((way.1 ++ [way.2]).drop j) fd2 = addAll (knotL ns cs) (way.1 ++ [way.2]) fd)
      (fun w8 e8 => ⟨l7.trans e8, fun p o h => e8.ef p o (e7.ef p o (e6.ef p o (ef5 p o h))), fun p o h => e8.ef p o (e7.ef p o (e6.ef p o h)), fd, x11, rfl, ((oe5.le0 e6).le0 e7).le0 e8, ((ol5.le0 e6).le0 e7).le0 e8, rfl⟩) ?_ ?_
    · rintro j σ1 w8 hj ⟨l8, ef8, ef58, fd2, y11, rfl, oe8, ol8, hadd⟩ z w9 e9 hz Kw hKw
      rw [getD_map hj] at hz
      cases hz
      rw [List.drop_eq_getElem_cons hj] at hadd
      simp only [addAll] at hadd
      have hlen2 : fd2.length ≤ 94 := by
        have h1 := add_mono (L := knotL ns cs) ((way.1 ++ [way.2]).drop (j + 1)) (if !fd2.contains (way.1 ++ [way.2])[j] && knotL ns cs (way.1 ++ [way.2])[j] then fd2 ++ [(way.1 ++ [way.2])[j]] else fd2)
        have h2 : fd2.length ≤ (if !fd2.contains (way.1 ++ [way.2])[j] && knotL ns cs (way.1 ++ [way.2])[j] then fd2 ++ [(way.1 ++ [way.2])[j]] else fd2).length := by split <;> simp
        have h3 := found_mono (f := arr cs) (L := knotL ns cs) (N := cs.length + 1) ((headsOf ns).drop (i + 1)) (addAll (knotL ns cs) (way.1 ++ [way.2]) fd)
        rw [hfd] at h3
        rw [hadd] at h1
        omega
      generalize hx : (way.1 ++ [way.2])[j] = x at hadd
      have l9 := l8.trans e9
      have oe9 := oe8.le0 e9
      have ol9 := ol8.le0 e9
      have hL : knotL ns cs x = ((arr cs x).isNone || decide (x ∈ headsOf ns) || decide (1 < cnt (arr cs) (comeOf ns cs) x)) := by
        unfold knotL isL
        rw [List.contains_eq_mem]
      have hget : (valV es (.inl x)).getD (.int 0) = .int (cnt (arr cs) (comeOf ns cs) x) := by
        rw [cd.val]
        split
        · next h => rw [h]; rfl
        · rfl
      show tIfS _ _ _ _ [some v, some u, some vv, some (.ref d), some (.ref l), some a, some (.int ns[i].2), x7, some vh, some va, some (.int way.2), some (.int x)] w9.h
      refine st_if (J := J0) (P := (· = (!decide (x ∈ fd2) && knotL ns cs x))) (et_and (a := !decide (x ∈ fd2)) (b := knotL ns cs x) (et_test (ev_inO true ol9 id rfl (ev_is (v := .int x) rfl))) (fun _ => et_or (a := !(valV (kvsOf cs) (.inl x)).isSome) (b := decide (x ∈ headsOf ns) || decide (1 < cnt (arr cs) (comeOf ns cs) x)) (et_b (ev_dni (x := .inl x) (hd l9) (ev_is (v := .int x) rfl)))
        (fun _ => et_or (a := decide (x ∈ headsOf ns)) (b := decide (1 < cnt (arr cs) (comeOf ns cs) x)) (et_test (ev_inL false (ev_is (v := .int x) rfl) (ev_var (i := 8) (R := LstR K ((headsOf ns).map RI)) (v := vh) rfl (Rp.mono _ (fun p o h => e9.ef p o (ef8 p o h)) hh)))) (fun _ => et_test (ev_gt (b := 1) (ev_dget2O (R := RI (cnt (arr cs) (comeOf ns cs) x)) (x := .inl x) (v := .int 0) oe9 id rfl (ev_is (v := .int x) rfl) ev_cv hget) ev_cv (by rw [decide_eq_decide]; omega))) rfl) ?_) rfl) (fun hb w10 e10 => ?_) (fun hb w10 e10 => ?_)
      · rw [hL, val_kvs]
        cases arr cs x <;> simp
      · have hb' : (!fd2.contains x && knotL ns cs x) = true := by rw [List.contains_eq_mem]; exact hb.symm
        rw [hb'] at hadd
        simp only [if_true] at hadd
        refine st_app (J := J0) (R := RI x) (ol9.le0 e10) id rfl (ev_is rfl) (by rw [List.length_map]; omega) fun u11 w11 w12 e11 h11 m12 => ?_
        cases h11
        have o11 := (ol9.le0 e10).le0 e11
        have efx : Exf w8.f w12.f := fun p o h => m12.ef p o (e11.ef p o (e10.ef p o (e9.ef p o h)))
        exact hKw _ w12 efx ⟨((l9.trans e10).trans e11).mt m12 hl0 o11.f, fun p o h => efx p o (ef8 p o h), fun p o h => efx p o (ef58 p o h), fd2 ++ [x], _, rfl, ((oe9.le0 e10).le0 e11).mt m12 nld.symm, by rw [List.map_append]; exact m12.own o11.f, hadd⟩
      · have hb' : (!fd2.contains x && knotL ns cs x) = false := by rw [List.contains_eq_mem]; exact hb.symm
        rw [hb'] at hadd
        simp only [Bool.false_eq_true, if_false] at hadd
        have efx : Exf w8.f w10.f := fun p o h => e10.ef p o (e9.ef p o h)
        exact hKw _ w10 efx ⟨l9.trans e10, fun p o h => efx p o (ef8 p o h), fun p o h => efx p o (ef58 p o h), fd2, _, rfl, oe9.le0 e10, ol9.le0 e10, hadd⟩
    · rintro σ1 w8 ⟨l8, ef8, ef58, fd2, y11, rfl, oe8, ol8, hadd⟩
      rw [List.drop_length] at hadd
      have hadd : fd2 = addAll (knotL ns cs) (way.1 ++ [way.2]) fd := hadd
      refine hK _ w8 ef58 ⟨l8, ef8, fd2, _, _, _, _, _, rfl, oe8, ol8, ?_⟩
      rw [hadd]
      exact hfd
  rintro σ1 w5 ⟨l5, ef5, fd, y5, y6, x9, x10, x11, rfl, oe5, ol5, hfd⟩
  rw [hdn] at hfd
  have hfd : fd = foundOf ns cs := hfd
  subst hfd
  have lp : Le J0 w (w5.pub l _ ol5.h) := l5.pub hl0 ol5.h
  have hfn : (LstR K ((foundOf ns cs).map RI)).r (w5.pub l _ ol5.h).f (.ref l) := pub_lst ol5 (allR_ints.mpr rfl)
  have efp : Exf w2.f (w5.pub l _ ol5.h).f := fun p o h => pub_ef ol5.h ol5.f p o (ef5 p o (ef4 p o h))
  show tRet (tTup (tCons (tVar 4) (tCons (tVar 2) tNil))) { nx := fun _ H' => Q .non H', rt := Q } [some v, some u, some vv, some (.ref d), some (.ref l), y5, y6, x7, some vh, x9, x10, x11] (w5.pub l _ ol5.h).h
  exact st_ret (J := J0) (ev_tup (ea_cons (ev_var (v := .ref l) rfl hfn) (ea_cons (hvv efp) ea_nil)) (by simp)) fun vr wr er hr => q vr wr (lp.trans er) hr
end
end Z
end

section -- P23
set_option Elab.async false
set_option linter.all false
set_option maxRecDepth 100000
set_option maxHeartbeats 4000000
set_option autoImplicit false
namespace Z
open PySem PySem.Spec L2 K07
open M7 (Names Cells Kn Kd arr headsOf comeOf knotK knotL foundOf strOf knsOf lenOf lostOf cellKnots lettersAt knOf lineGo)
section
variable {J : Addr → Prop} {σ : St} {w w0 w1 : Wd} {ta tb tc t te : TE} {ts : TA} {K : PySem.W.Frag} {cS cP : Addr} {mg : PySem.Str → Option Value} {D : Ends} {sa rest : TS} {g g1 : TG} {i j k m : Nat} {R Ra Rb Rc : Rp} {Rs Ss : List Rp} {ns ns' : Names} {cs cs' : Cells}
theorem line_eq (ns : Names) (cs : Cells) {k b : Int} (hk : k ∈ foundOf ns cs) (hb : arr cs k = some b) : lineGo (arr cs) (foundOf ns cs) cs.length [k] b = some (strOf ns cs k) := by
  obtain ⟨l, e, h1, h2, h3⟩ := M7.str_all ns cs hk hb
  have hS : strOf ns cs k = (k :: l, e) := by
    have := str_some ns cs hk hb
    rw [h3] at this
    exact (Option.some.inj this).symm
  have hr := ((M7.found_mem ns cs k).mp hk).1
  have h4 := h1.line (ks := foundOf ns cs) (n := cs.length) (fun y hy => by
    rw [M7.found_mem]
    exact ⟨fun h => h.2, fun h => ⟨h1.reached hr y (List.mem_cons_of_mem _ hy), h⟩⟩) (by omega)
  rw [hb] at h4
  rw [hS]
  exact h4
theorem idx_first {p : Int} : ∀ (s : List Int) (m : Nat) (z : Int), m < s.idxOf p → s[m]? = some z → z ≠ p
  | [], m, z, _, h => by simp at h
  | a :: s, m, z, h, hz => by
    rw [List.idxOf_cons] at h
    by_cases e : a = p
    · subst e; simp at h
    · have e2 : (a == p) = false := by simpa using e
      rw [e2] at h
      simp only [cond_false] at h
      cases m with
      | zero => simp at hz; subst hz; exact e
      | succ m => exact idx_first s m z (by omega) (by simpa using hz)
theorem ev_index {s : List Int} {p : Int} (ha : Ev J ta σ w (LstR K (s.map RI))) (hb : Ev J tb σ w (RI p)) (hp : p ∈ s) : Ev J (tBM K "list" (rIndex K) ta (tCons tb tNil)) σ w (RI (s.idxOf p)) := fun w' e Q q => ha w' e _ fun x w1 e1 ⟨a, xs, h1, h2, h3⟩ => by
  have := allR_ints.mp h3
  subst this
  subst h1
  refine ⟨.inl ⟨rfl, _, sqL_h w1 h2⟩, hb w1 (e.trans e1) _ fun y w2 e2 hy => ?_⟩
  have hlt := List.idxOf_lt_length_iff.mpr hp
  refine ⟨a, s.map V.int, .int p, s.idxOf p, .int p, rfl, by rw [hy], sqL_h w2 (sqL_mono e2.ef h2), rfl, flat_ints s, ?_, by simp [eqV], fun m z' hm hz => ?_, q _ w2 (e1.trans e2) rfl⟩
  · rw [List.getElem?_map, List.getElem?_eq_getElem hlt, List.getElem_idxOf]
    rfl
  · rw [List.getElem?_map] at hz
    cases hs : s[m]? with
    | none => rw [hs] at hz; simp at hz
    | some z0 =>
      rw [hs] at hz
      have hz : V.int z0 = z' := by simpa using hz
      subst hz
      have := idx_first s m z0 hm hs
      show (z0 == p) = false
      simpa using this
def wordsD (ns : Names) (cs : Cells) : PyData := .list (((knsOf ns cs).map wordS).map .str)
def strsL (ns : Names) (cs : Cells) : List PyData := (cellKnots (arr cs) (foundOf ns cs)).map fun k => .list (intD (strOf ns cs k).1)
def lawPs (ns : Names) (cs : Cells) : List PyData := [wordsD ns cs, .list (intD (oz (lenOf ns cs))), .int (lostOf ns cs), .list (strsL ns cs), .list (intD (foundOf ns cs))]
theorem pu_law_plan (T : Txt K mg cS cP) (vc : VC cs) (vn : VN ns) : Pu0 (p_law_plan K cS cP) [TupD K (ns.map nmD), TupD K (cs.map clD)] (Dat K (.tuple (lawPs ns cs))) := pu_2 fun v u w h hu Q q => by
  have hfew := vc.few
  have h4 := vn.four
  have hcl := M7.come_len ns cs
  have hff := found_few vc vn
  have W := M7.whole ns cs
  have KF := knf_of vn vc
  have hkl : (kvsOf cs).length = cs.length := by simp [kvsOf]
  have hkn := kns_len ns cs
  refine sq_asg (J := J0) (ev_cl (ea_cons (ev_var (i := 1) (v := u) rfl hu) ea_nil) (pu_law_arrows vc).pu) fun vd w1 e1 hd1 => ?_
  show tSeq _ _ _ [some v, some u, some vd, none, none, none, none, none, none, none, none, none, none, none] w1.h
  refine sq_asgG (J := J0) (ev_cl (ea_cons (ev_var (i := 0) (v := v) rfl (Rp.mono _ e1.ef h)) (ea_cons (ev_var (i := 2) (v := vd) rfl hd1) ea_nil)) (pu_law_knots T vc vn).pu) fun vk w2 e2 hk => g_two hk fun vf vcm hvf hvcm => ?_
  have l2 := e1.trans e2
  show tSeq _ _ _ [some v, some u, some vd, some vf, some vcm, none, none, none, none, none, none, none, none, none] w2.h
  refine st_par (en_lst (J := J0) ea_nil (by simp) w2 .rfl _ fun lw o w3 e3 hlw own1 ⟨xs, ho, hxs⟩ => en_lst (J := J0) (w := w3) ea_nil (by simp) w3 .rfl _ fun lt o' w4 e4 hlt own2 ⟨ys, ho', hys⟩ => ?_)
  cases hxs.nil_inv
  cases hys.nil_inv
  subst ho
  subst ho'
  have hlw0 : w.h lw = none := l2.fresh hlw
  have hlt0 : w.h lt = none := (l2.trans e3).fresh hlt
  have ntw : lt ≠ lw := fun z => by subst z; rw [own1.h] at hlt; cases hlt
  have l4 := (l2.trans e3).trans e4
  have ef24 : Exf w2.f w4.f := (e3.trans e4).ef
  show tSeq _ _ _ [some v, some u, some vd, some vf, some vcm, some (.ref lw), some (.ref lt), none, none, none, none, none, none, none] w4.h
  have hnm : ∀ {x1 x2 x3 x4 x5 x6 x7 x8 x9 x10 x11 x12 x13 : Option V} {w' : Wd}, Le J0 w w' → Ev J0 (tVar 0) [some v, x1, x2, x3, x4, x5, x6, x7, x8, x9, x10, x11, x12, x13] w' (TupR K (ns.map (nmR K))) := fun e => ev_var (v := v) rfl (nms_of (Rp.mono _ e.ef h))
  have hd : ∀ {x0 x1 x3 x4 x5 x6 x7 x8 x9 x10 x11 x12 x13 : Option V} {w' : Wd}, Exf w2.f w'.f → Ev J0 (tVar 2) [x0, x1, some vd, x3, x4, x5, x6, x7, x8, x9, x10, x11, x12, x13] w' (DicR (kvsOf cs)) := fun e => ev_var (v := vd) rfl (Rp.mono _ e (Rp.mono _ e2.ef hd1))
  have hf : ∀ {x0 x1 x2 x4 x5 x6 x7 x8 x9 x10 x11 x12 x13 : Option V} {w' : Wd}, Exf w2.f w'.f → Ev J0 (tVar 3) [x0, x1, x2, some vf, x4, x5, x6, x7, x8, x9, x10, x11, x12, x13] w' (LstR K ((foundOf ns cs).map RI)) := fun e => ev_var (v := vf) rfl (Rp.mono _ e hvf)
  have hfl : ((foundOf ns cs).map RI).length = (foundOf ns cs).length := List.length_map _
  refine sq_for (J := J0) (hfl ▸ src_list (hf ef24)) (fun i σ1 w5 => Le J0 w w5 ∧ Exf w2.f w5.f ∧ ∃ x7 x8 x9 x10 x11, ∃ ts : List V, σ1 = [some v, some u, some vd, some vf, some vcm, some (.ref lw), some (.ref lt), x7, x8, x9, x10, x11, none, none] ∧ Own w5 lw (.lst ((((knsOf ns cs).take i).map wordS).map V.str)) ∧ Own w5 lt (.lst ts) ∧
      AllR w5.f ((cellKnots (arr cs) ((foundOf ns cs).take i)).map fun k => Dat K (.list (intD (strOf ns cs k).1))) ts)
    (fun w5 e5 => ⟨l4.trans e5, fun p o h => e5.ef p o (ef24 p o h), none, none, none, none, none, [], rfl, (own1.le0 e4).le0 e5, own2.le0 e5, trivial⟩) ?_ ?_
  · rintro i σ1 w5 hi ⟨l5, ef5, x7, x8, x9, x10, x11, ts, rfl, ow, ot, all⟩ z w6 e6 hz Kk bk hK
    rw [getD_map hi] at hz
    cases hz
    have hpF := List.getElem_mem hi
    have htkF : (foundOf ns cs).take (i + 1) = (foundOf ns cs).take i ++ [(foundOf ns cs)[i]] := List.take_succ_eq_append_getElem hi
    have hknE : (knsOf ns cs)[i]'(by rw [hkn]; exact hi) = knOf (arr cs) ns (foundOf ns cs) (strOf ns cs) (foundOf ns cs)[i] := by simp [knsOf]
    have hgood : GoodK (knsOf ns cs).length (knOf (arr cs) ns (foundOf ns cs) (strOf ns cs) (foundOf ns cs)[i]) := by rw [← hknE]; exact KF.good _ (List.getElem_mem _)
    have htk : (knsOf ns cs).take (i + 1) = (knsOf ns cs).take i ++ [knOf (arr cs) ns (foundOf ns cs) (strOf ns cs) (foundOf ns cs)[i]] := by
      rw [← hknE]
      exact List.take_succ_eq_append_getElem _
    generalize hp : (foundOf ns cs)[i] = p at hpF htkF htk hgood
    have l6 := l5.trans e6
    have ef6 : Exf w2.f w6.f := fun p o h => e6.ef p o (ef5 p o h)
    have hck : cellKnots (arr cs) ((foundOf ns cs).take (i + 1)) = cellKnots (arr cs) ((foundOf ns cs).take i) ++ (if (arr cs p).isSome then [p] else []) := by
      unfold cellKnots
      rw [htkF, List.filter_append]
      congr 1
      cases hb : (arr cs p).isSome with
      | true => rw [List.filter_cons_of_pos (by simpa using hb)]; rfl
      | false => rw [List.filter_cons_of_neg (by simp [hb])]; rfl
    have hlet : (lettersAt ns p).length ≤ 1000 := by
      unfold M7.lettersAt
      rw [List.length_map]
      exact Nat.le_trans (List.length_filter_le _ _) (by omega)
    have hpre : (preS (lettersAt ns p)).length ≤ 30 := by
      have h1 := word_len hgood KF.few
      unfold wordL at h1
      have e : (preS (lettersAt ns p)).length = (preL (lettersAt ns p)).length := by show (preL (lettersAt ns p)).toArray.size = _; simp
      rw [e]
      simp at h1
      have h1 : (preL (lettersAt ns p)).length + _ ≤ 30 := h1
      omega
    show tSeq _ _ _ [some v, some u, some vd, some vf, some vcm, some (.ref lw), some (.ref lt), some (.int p), x8, x9, x10, x11, none, none] w6.h
    refine sq_asg (J := J0) (R := RS (ltr (lettersAt ns p))) (Ev.of (ev_joinR (K := K) (ys := (lettersAt ns p).map chr) ev_cv (ev_letAt (p := p) (hnm l6) (by omega) (fun _ _ => rfl) (fun _ _ => rfl) (fun _ _ => rfl) (fun _ _ => rfl) fun _ _ => id) (lets_sum _ hlet)) (by rw [join_chr])) fun u7 w7 e7 h7 => ?_
    cases h7
    have l7 := l6.trans e7
    show tSeq _ _ _ [some v, some u, some vd, some vf, some vcm, some (.ref lw), some (.ref lt), some (.int p), some (.str (ltr (lettersAt ns p))), x9, x10, x11, none, none] w7.h
    refine sq_asg (J := J0) (R := RS (preS (lettersAt ns p))) (ev_if (P := (· = !decide (lettersAt ns p = []))) (et_test (ev_ne (ev_is rfl) ev_cv rfl ?_)) (fun hb => ?_) (fun hb => ?_)) fun u8 w8 e8 h8 => ?_
    · by_cases hz : lettersAt ns p = []
      · rw [hz]; rfl
      · have := eq_str_l (a := ltr (lettersAt ns p)) (b := "") (by show lettersAt ns p ≠ []; exact hz)
        rw [this, decide_eq_false hz]
    · have hz : ¬ lettersAt ns p = [] := fun z => by rw [z] at hb; simp at hb
      have e : preS (lettersAt ns p) = ltr (lettersAt ns p) := by unfold preS ltr preL; rw [if_neg hz]
      rw [e]
      exact ev_is rfl
    · have hz : lettersAt ns p = [] := by
        by_cases z : lettersAt ns p = []
        · exact z
        · rw [decide_eq_false z] at hb; cases hb
      have e : preS (lettersAt ns p) = "-" := str_ext (by rw [mi_l]; show preL (lettersAt ns p) = _; unfold preL; rw [if_pos hz])
      rw [e]
      exact ev_cv
    cases h8
    have l8 := l7.trans e8
    have ef8 : Exf w2.f w8.f := fun p o h => e8.ef p o (e7.ef p o (ef6 p o h))
    have ef58 : Exf w5.f w8.f := fun p o h => e8.ef p o (e7.ef p o (e6.ef p o h))
    have ow8 := ((ow.le0 e6).le0 e7).le0 e8
    have ot8 := ((ot.le0 e6).le0 e7).le0 e8
    have hwl : ((((knsOf ns cs).take i).map wordS).map V.str).length < 100000 := by simp; omega
    show tIfS _ _ _ _ [some v, some u, some vd, some vf, some vcm, some (.ref lw), some (.ref lt), some (.int p), some (.str (preS (lettersAt ns p))), x9, x10, x11, none, none] w8.h
    refine st_if (J := J0) (et_b (ev_dni (x := .inl p) (hd ef8) (ev_is (v := .int p) rfl))) (fun hb w9 e9 => ?_) (fun hb w9 e9 => ?_)
    · have hnone : arr cs p = none := by
        rw [val_kvs] at hb
        cases hq : arr cs p with
        | none => rfl
        | some b => rw [hq] at hb; cases hb
      have hkn2 : knOf (arr cs) ns (foundOf ns cs) (strOf ns cs) p = (lettersAt ns p, if p = 0 then .dot else .bang) := by unfold M7.knOf; rw [hnone]; rfl
      refine st_app (J := J0) (R := RS (preS (lettersAt ns p) ++ sgnS (if p = 0 then .dot else .bang))) (ow8.le0 e9) id rfl (ev_addS (ev_is rfl) (ev_if (P := (· = decide (p = 0))) (et_test (ev_eq (ev_is (v := .int p) rfl) ev_cv rfl ?_)) (fun hb => ?_) (fun hb => ?_)) (Nat.le_trans (show (preS (lettersAt ns p)).length + 1 ≤ 100 by omega) (by decide))) hwl fun u10 w10 w11 e10 h10 m11 => ?_
      · rw [decide_eq_decide]
        exact ⟨fun h => V.int.inj h, fun h => by rw [h]⟩
      · rw [if_pos (of_decide_eq_true hb.symm)]
        have : sgnS .dot = "." := by decide +kernel
        rw [this]
        exact ev_cv
      · rw [if_neg (of_decide_eq_false hb.symm)]
        have : sgnS .bang = "!" := by decide +kernel
        rw [this]
        exact ev_cv
      · cases h10
        have o10 := (ow8.le0 e9).le0 e10
        have efx : Exf w5.f w11.f := fun p o h => m11.ef p o (e10.ef p o (e9.ef p o (ef58 p o h)))
        refine hK _ w11 efx ⟨((l8.trans e9).trans e10).mt m11 hlw0 o10.f, fun p o h => efx p o (ef5 p o h), _, _, _, _, _, ts, rfl, ?_, ((ot8.le0 e9).le0 e10).mt m11 ntw, ?_⟩
        · have o11 := m11.own o10.f
          have ew : preS (lettersAt ns p) ++ sgnS (if p = 0 then .dot else .bang) = wordS (knOf (arr cs) ns (foundOf ns cs) (strOf ns cs) p) := by
            rw [← word_eq, hkn2]
            refine str_ext ?_
            rw [app_cps, app_cps, app_cps]
            have : (goalS (if p = 0 then Kd.dot else Kd.bang)).cps.toList = [] := by split <;> rfl
            show _ = _ ++ (goalS (if p = 0 then Kd.dot else Kd.bang)).cps.toList
            rw [this, List.append_nil]
          rw [htk, List.map_append, List.map_append, List.map_singleton, List.map_singleton, ← ew]
          exact o11
        · rw [hck, hnone]
          simpa using all.mono efx
    · obtain ⟨b, hbq⟩ : ∃ b, arr cs p = some b := by
        rw [val_kvs] at hb
        cases hq : arr cs p with
        | none => rw [hq] at hb; cases hb
        | some b => exact ⟨b, rfl⟩
      have hkn2 : knOf (arr cs) ns (foundOf ns cs) (strOf ns cs) p = (lettersAt ns p, .to ((foundOf ns cs).idxOf (strOf ns cs p).2)) := by unfold M7.knOf; rw [hbq]; rfl
      have hline := line_eq ns cs hpF hbq
      have hgoal := W.goal hpF hbq
      have hgi : (foundOf ns cs).idxOf (strOf ns cs p).2 < 100 := by have := List.idxOf_lt_length_iff.mpr hgoal; omega
      have l9 := l8.trans e9
      have ef9 : Exf w2.f w9.f := fun p o h => e9.ef p o (ef8 p o h)
      have ow9 := ow8.le0 e9
      have ot9 := ot8.le0 e9
      show tSeq _ _ _ [some v, some u, some vd, some vf, some vcm, some (.ref lw), some (.ref lt), some (.int p), some (.str (preS (lettersAt ns p))), x9, x10, x11, none, none] w9.h
      refine st_par (en_lst (J := J0) (ea_cons (ev_is (v := .int p) rfl) ea_nil) (by simp) w9 .rfl _ fun ll o w10 e10 hll own10 ⟨xs, ho, hxs⟩ => ?_)
      obtain ⟨y, ys, rfl, hy, hxs⟩ := hxs.cons_inv
      cases hxs.nil_inv
      cases hy
      subst ho
      have ow10 := ow9.le0 e10
      have ot10 := ot9.le0 e10
      have hll0 : w.h ll = none := l9.fresh hll
      have nlw : ll ≠ lw := fun z => by subst z; rw [ow9.h] at hll; cases hll
      have nlt : ll ≠ lt := fun z => by subst z; rw [ot9.h] at hll; cases hll
      refine ev_dget (J := J0) (R := RI b) (v := .int b) (x := .inl p) (hd (fun p o h => e10.ef p o (ef9 p o h))) (ev_is (v := .int p) rfl) (by rw [val_kvs, hbq]; rfl) (fun _ _ => rfl) w10 .rfl _ fun y w11 e11 hy => ?_
      cases hy
      have l11 := (l9.trans e10).trans e11
      have ef11 : Exf w2.f w11.f := fun p o h => e11.ef p o (e10.ef p o (ef9 p o h))
      have ef511 : Exf w5.f w11.f := fun p o h => e11.ef p o (e10.ef p o (e9.ef p o (ef58 p o h)))
      show tSeq _ _ _ [some v, some u, some vd, some vf, some vcm, some (.ref lw), some (.ref lt), some (.int p), some (.str (preS (lettersAt ns p))), some (.ref ll), some (.int b), x11, none, none] w11.h
      have hrng := src_rng1 (J := J0) (σ := [some v, some u, some vd, some vf, some vcm, some (.ref lw), some (.ref lt), some (.int p), some (.str (preS (lettersAt ns p))), some (.ref ll), some (.int b), x11, none, none]) (w := w11) (te := tCB rLenD (tCons (tVar 2) tNil)) (n := (cs.length : Int)) ((ev_lenD (hd ef11)).of (by rw [hkl])) (by omega) (by omega)
      have hcnt : ((cs.length : Int)).toNat = cs.length := by omega
      rw [hcnt] at hrng
      -- behind the inner loop
      have fin : ∀ (x11 : Option V) (w12 : Wd), Le J0 w w12 → Exf w2.f w12.f → Exf w5.f w12.f → Own w12 ll (.lst ((strOf ns cs p).1.map V.int)) → Own w12 lw (.lst ((((knsOf ns cs).take i).map wordS).map V.str)) → Own w12 lt (.lst ts) →
          tSeq (tDrop (tBM K "list" rAppend (tVar 5) (tCons (tOp K07.rAddS (tOp K07.rAddS (tVar 8) (tC (.str ">"))) (tCB rStrI (tCons (tBM K "list" (rIndex K) (tVar 3) (tCons (tVar 10) tNil)) tNil))) tNil))) (tDrop (tBM K "list" rAppend (tVar 6) (tCons (tVar 9) tNil)))
            { nx := Kk, rt := Q, bk := bk, ct := Kk } [some v, some u, some vd, some vf, some vcm, some (.ref lw), some (.ref lt), some (.int p), some (.str (preS (lettersAt ns p))), some (.ref ll), some (.int (strOf ns cs p).2), x11, none, none] w12.h := fun x11 w12 l12 ef12 ef512 ol12 ow12 ot12 => by
        have hgt : (">" : Str) = sgnS (.to ((foundOf ns cs).idxOf (strOf ns cs p).2)) := str_ext gt_l
        have hnl := num_len (k := (foundOf ns cs).idxOf (strOf ns cs p).2) (by omega)
        have h1 : (">" : Str).length = 1 := by decide +kernel
        have lp : Le J0 w (w12.pub ll _ ol12.h) := l12.pub hll0 ol12.h
        have hlin : (Dat K (.list (intD (strOf ns cs p).1))).r (w12.pub ll _ ol12.h).f (.ref ll) := lst_ints.mp (pub_lst ol12 (allR_ints.mpr rfl))
        have owp := ow12.pub ol12.h nlw.symm
        have otp := ot12.pub ol12.h nlt.symm
        have efp : Exf w12.f (w12.pub ll _ ol12.h).f := pub_ef ol12.h ol12.f
        show tSeq (tDrop (tBM K "list" rAppend (tVar 5) (tCons (tOp K07.rAddS (tOp K07.rAddS (tVar 8) (tC (.str ">"))) (tCB rStrI (tCons (tBM K "list" (rIndex K) (tVar 3) (tCons (tVar 10) tNil)) tNil))) tNil))) (tDrop (tBM K "list" rAppend (tVar 6) (tCons (tVar 9) tNil)))
            { nx := Kk, rt := Q, bk := bk, ct := Kk } [some v, some u, some vd, some vf, some vcm, some (.ref lw), some (.ref lt), some (.int p), some (.str (preS (lettersAt ns p))), some (.ref ll), some (.int (strOf ns cs p).2), x11, none, none] (w12.pub ll _ ol12.h).h
        generalize w12.pub ll _ ol12.h = w13 at lp hlin owp otp efp
        have ef13 : Exf w2.f w13.f := fun p o h => efp p o (ef12 p o h)
        refine st_app (J := J0) (R := RS (preS (lettersAt ns p) ++ ">" ++ numS ((foundOf ns cs).idxOf (strOf ns cs p).2))) owp id rfl (ev_addS (ev_addS (ev_is rfl) ev_cv (Nat.le_trans (show (preS (lettersAt ns p)).length + _ ≤ 100 by rw [h1]; omega) (by decide))) (ev_num (ev_index (hf ef13) (ev_is (v := .int (strOf ns cs p).2) rfl) hgoal) (by omega)) (Nat.le_trans (show _ ≤ 100 by rw [app_len, h1]; omega) (by decide))) hwl fun u14 w14 w15 e14 h14 m15 => ?_
        cases h14
        have o14 := owp.le0 e14
        have o15 := m15.own o14.f
        have ot15 := (otp.le0 e14).mt m15 ntw
        have l15 := (lp.trans e14).mt m15 hlw0 o14.f
        have ef1315 : Exf w13.f w15.f := fun p o h => m15.ef p o (e14.ef p o h)
        refine st_app (J := J0) (R := Dat K (.list (intD (strOf ns cs p).1))) ot15 id rfl (ev_var (v := .ref ll) rfl (Rp.mono _ ef1315 hlin)) ?_ fun u16 w16 w17 e16 h16 m17 => ?_
        · have h2 := all.len
          have h3 : (cellKnots (arr cs) ((foundOf ns cs).take i)).length ≤ (foundOf ns cs).length := Nat.le_trans (List.length_filter_le _ _) (by simp; omega)
          rw [List.length_map] at h2
          omega
        have o16 := ot15.le0 e16
        have o17 := m17.own o16.f
        have ow17 := (o15.le0 e16).mt m17 ntw.symm
        have efx : Exf w5.f w17.f := fun p o h => m17.ef p o (e16.ef p o (ef1315 p o (efp p o (ef512 p o h))))
        refine hK _ w17 efx ⟨(l15.trans e16).mt m17 hlt0 o16.f, fun p o h => efx p o (ef5 p o h), _, _, _, _, _, _, rfl, ?_, o17, ?_⟩
        · have ew : preS (lettersAt ns p) ++ ">" ++ numS ((foundOf ns cs).idxOf (strOf ns cs p).2) = wordS (knOf (arr cs) ns (foundOf ns cs) (strOf ns cs) p) := by
            rw [← word_eq, hkn2, goal_to, hgt]
          rw [htk, List.map_append, List.map_append, List.map_singleton, List.map_singleton, ← ew]
          exact ow17
        · rw [hck, hbq, List.map_append]
          exact (all.mono efx).append ⟨(Dat K _).mono m17.ef h16, trivial⟩
      refine sq_forB (J := J0) hrng (fun j σ1 w12 => Le J0 w w12 ∧ Exf w2.f w12.f ∧ Exf w5.f w12.f ∧ ∃ (cl : List Int) (e : Int), ∃ x11, σ1 = [some v, some u, some vd, some vf, some vcm, some (.ref lw), some (.ref lt), some (.int p), some (.str (preS (lettersAt ns p))), some (.ref ll), some (.int e), x11, none, none] ∧ Own w12 ll (.lst (cl.map V.int)) ∧ Own w12 lw (.lst ((((knsOf ns cs).take i).map wordS).map V.str)) ∧ Own w12 lt (.lst ts) ∧
          lineGo (arr cs) (foundOf ns cs) (cs.length - j) cl e = some (strOf ns cs p) ∧ cl.length ≤ j + 1)
        (fun w12 e12 => ⟨l11.trans e12, fun p o h => e12.ef p o (ef11 p o h), fun p o h => e12.ef p o (ef511 p o h), [p], b, x11, rfl, (own10.le0 e11).le0 e12, (ow10.le0 e11).le0 e12, (ot10.le0 e11).le0 e12, hline, by simp⟩) ?_ ?_
      · rintro j σ1 w12 hj ⟨l12, ef12, ef512, cl, e, y11, rfl, ol12, ow12, ot12, hl12, hcl2⟩ z w13 e13 hz Kw hKw
        cases hz
        have ef13 : Exf w2.f w13.f := fun p o h => e13.ef p o (ef12 p o h)
        have l13 := l12.trans e13
        have hn : cs.length - j = (cs.length - (j + 1)) + 1 := by omega
        rw [hn] at hl12
        unfold lineGo at hl12
        show tSeq _ _ _ [some v, some u, some vd, some vf, some vcm, some (.ref lw), some (.ref lt), some (.int p), some (.str (preS (lettersAt ns p))), some (.ref ll), some (.int e), some (.int j), none, none] w13.h
        refine st_ifS (J := J0) (et_test (ev_inL false (ev_is (v := .int e) rfl) (hf ef13))) (fun hb w14 e14 => ?_) (fun hb w14 e14 => ?_)
        · have hm : e ∈ foundOf ns cs := of_decide_eq_true hb.symm
          rw [if_pos hm] at hl12
          have heq : (cl, e) = strOf ns cs p := Option.some.inj hl12
          have e1 : (strOf ns cs p).1 = cl := by rw [← heq]
          have e2 : (strOf ns cs p).2 = e := by rw [← heq]
          have hfin := fin (some (.int j)) w14 (l13.trans e14) (fun p o h => e14.ef p o (ef13 p o h)) (fun p o h => e14.ef p o (e13.ef p o (ef512 p o h)))
          rw [e1, e2] at hfin
          exact hfin ((ol12.le0 e13).le0 e14) ((ow12.le0 e13).le0 e14) ((ot12.le0 e13).le0 e14)
        · have hm : e ∉ foundOf ns cs := of_decide_eq_false hb.symm
          rw [if_neg hm] at hl12
          cases hq : arr cs e with
          | none => rw [hq] at hl12; cases hl12
          | some q' =>
            rw [hq] at hl12
            show tSeq _ _ _ [some v, some u, some vd, some vf, some vcm, some (.ref lw), some (.ref lt), some (.int p), some (.str (preS (lettersAt ns p))), some (.ref ll), some (.int e), some (.int j), none, none] w14.h
            refine st_app (J := J0) (R := RI e) ((ol12.le0 e13).le0 e14) id rfl (ev_is rfl) (by rw [List.length_map]; omega) fun u15 w15 w16 e15 h15 m16 => ?_
            cases h15
            have o15 := ((ol12.le0 e13).le0 e14).le0 e15
            have o16 := m16.own o15.f
            have l16 := ((l13.trans e14).trans e15).mt m16 hll0 o15.f
            have ef16 : Exf w12.f w16.f := fun p o h => m16.ef p o (e15.ef p o (e14.ef p o (e13.ef p o h)))
            refine st_asg (J := J0) (ev_dget (R := RI q') (v := .int q') (x := .inl e) (hd fun p o h => ef16 p o (ef12 p o h)) (ev_is (v := .int e) rfl) (by rw [val_kvs, hq]; rfl) fun _ _ => rfl) fun u17 w17 e17 h17 => ?_
            cases h17
            exact hKw _ w17 (fun p o h => e17.ef p o (ef16 p o h)) ⟨l16.trans e17, fun p o h => e17.ef p o (ef16 p o (ef12 p o h)), fun p o h => e17.ef p o (ef16 p o (ef512 p o h)), cl ++ [e], q', _, rfl, by rw [List.map_append]; exact o16.le0 e17, ((((ow12.le0 e13).le0 e14).le0 e15).mt m16 nlw.symm).le0 e17, ((((ot12.le0 e13).le0 e14).le0 e15).mt m16 nlt.symm).le0 e17, hl12, by rw [List.length_append, List.length_singleton]; omega⟩
      · rintro σ1 w12 ⟨l12, ef12, ef512, cl, e, y11, rfl, ol12, ow12, ot12, hl12, hcl2⟩
        rw [Nat.sub_self] at hl12
        have heq : (cl, e) = strOf ns cs p := Option.some.inj hl12
        have e1 : (strOf ns cs p).1 = cl := by rw [← heq]
        have e2 : (strOf ns cs p).2 = e := by rw [← heq]
        have hfin := fin y11 w12 l12 ef12 ef512
        rw [e1, e2] at hfin
        exact hfin ol12 ow12 ot12
  rintro σ1 w5 ⟨l5, ef5, x7, x8, x9, x10, x11, ts, rfl, ow, ot, all⟩
  rw [List.take_of_length_le (by rw [hkn]; exact Nat.le_refl _)] at ow
  rw [List.take_length] at all
  have l6 : Le J0 w (w5.pub lw _ ow.h) := l5.pub hlw0 ow.h
  have hw6 := pub_lst (K := K) ow (allR_strs.mpr rfl)
  have ot6 := ot.pub ow.h ntw
  have ef6 : Exf w5.f (w5.pub lw _ ow.h).f := pub_ef ow.h ow.f
  show tRet (tTup (tCons (tVar 5) (tCons (tLc (iList K (tVar 6)) (gName 9) tYes (tCB (rLenQ K) (tCons (tVar 9) tNil)) [9]) (tCons (tOp rSubI (tCB rLenD (tCons (tVar 2) tNil)) (tCB (rLenQ K) (tCons (tVar 4) tNil))) (tCons (tVar 6) (tCons (tVar 3) tNil)))))) { nx := fun _ H' => Q .non H', rt := Q } [some v, some u, some vd, some vf, some vcm, some (.ref lw), some (.ref lt), x7, x8, x9, x10, x11, none, none] (w5.pub lw _ ow.h).h
  generalize w5.pub lw _ ow.h = w6 at l6 hw6 ot6 ef6
  have l7 : Le J0 w (w6.pub lt _ ot6.h) := l6.pub hlt0 ot6.h
  have ef7 : Exf w6.f (w6.pub lt _ ot6.h).f := pub_ef ot6.h ot6.f
  have ht7 := pub_lst (K := K) ot6 (all.mono ef6)
  show tRet (tTup (tCons (tVar 5) (tCons (tLc (iList K (tVar 6)) (gName 9) tYes (tCB (rLenQ K) (tCons (tVar 9) tNil)) [9]) (tCons (tOp rSubI (tCB rLenD (tCons (tVar 2) tNil)) (tCB (rLenQ K) (tCons (tVar 4) tNil))) (tCons (tVar 6) (tCons (tVar 3) tNil)))))) { nx := fun _ H' => Q .non H', rt := Q } [some v, some u, some vd, some vf, some vcm, some (.ref lw), some (.ref lt), x7, x8, x9, x10, x11, none, none] (w6.pub lt _ ot6.h).h
  generalize w6.pub lt _ ot6.h = w7 at l7 ef7 ht7
  have ef27 : Exf w2.f w7.f := fun p o h => ef7 p o (ef6 p o (ef5 p o h))
  refine st_ret (J := J0) (ev_tupD (ds := lawPs ns cs) (ev_tup (ea_cons (R := Dat K (wordsD ns cs)) (ev_var (i := 5) (v := .ref lw) rfl (Rp.mono _ ef7 (lst_strs.mp hw6))) (ea_cons (R := Dat K (.list (intD (oz (lenOf ns cs))))) ?_ (ea_cons (R := Dat K (.int (lostOf ns cs))) ?_ (ea_cons (R := Dat K (.list (strsL ns cs))) ?_ (ea_cons (R := Dat K (.list (intD (foundOf ns cs)))) ((hf ef27).imp fun _ _ _ => lst_ints.mp) ea_nil))))) (by simp [lawPs]))) fun vr wr er hr => q vr wr (l7.trans er) hr
  · refine Ev.imp (R := LstR K ((oz (lenOf ns cs)).map RI)) ?_ fun _ _ _ => lst_ints.mp
    have := ev_lcAll (J := J0) (K := K) (i := 9) (ta := tVar 6) (te := tCB (rLenQ K) (tCons (tVar 9) tNil)) (σ := [some v, some u, some vd, some vf, some vcm, some (.ref lw), some (.ref lt), x7, x8, x9, x10, x11, none, none]) (w := w7) (l := cellKnots (arr cs) (foundOf ns cs)) (A := fun k => Dat K (.list (intD (strOf ns cs k).1))) (E := fun k => RI (strOf ns cs k).1.length) (ev_var (v := .ref lt) rfl ht7) (Nat.le_trans (List.length_filter_le _ _) (by omega)) (fun k hk w8 e8 x hx => (ev_lenL (Rs := (strOf ns cs k).1.map RI) ((ev_var (v := x) rfl hx).imp fun _ _ _ => lst_ints.mpr)).of (by rw [List.length_map])) fun _ _ => id
    have e : (oz (lenOf ns cs)).map RI = (cellKnots (arr cs) (foundOf ns cs)).map fun k => RI (strOf ns cs k).1.length := by
      unfold M7.lenOf M7.lensOf
      rw [List.map_map, List.map_map]
      rfl
    rw [e]
    exact this
  · refine ev_Id ((ev_sub (a := cs.length) (b := (comeOf ns cs).length) ((ev_lenD (hd ef27)).of (by rw [hkl])) ((ev_lenL (Rs := (comeOf ns cs).map RI) (ev_var (i := 4) (v := vcm) rfl (Rp.mono _ ef27 hvcm))).of (by rw [List.length_map]))).of ?_)
    congr 2
    unfold M7.lostOf
    omega
  · refine ev_lstD ((ev_var (i := 6) (v := .ref lt) rfl ht7).of ?_)
    unfold strsL
    rw [List.map_map]
    rfl
end
end Z
end

section -- P24
set_option Elab.async false
set_option linter.all false
set_option maxRecDepth 100000
set_option maxHeartbeats 4000000
set_option autoImplicit false
namespace Z
open PySem PySem.Spec L2 K07
open M7 (Names Cells Kn Kd arr headsOf comeOf knotK knotL foundOf strOf knsOf lenOf lostOf cellKnots lettersAt knOf lineGo)
section
variable {J : Addr → Prop} {σ : St} {w w0 w1 : Wd} {ta tb tc t te : TE} {ts : TA} {K : PySem.W.Frag} {cS cP : Addr} {mg : PySem.Str → Option Value} {D : Ends} {sa rest : TS} {g g1 : TG} {i j k m : Nat} {R Ra Rb Rc : Rp} {Rs Ss : List Rp} {kns : List Kn} {prs : List (Nat × Nat)} {ls : List Nat} {lost : Nat}
theorem pu_plan_text (F : KnF kns prs) (hl : ls.length ≤ 100) (hb : ∀ l ∈ ls, l < 10 ^ 10) (h0 : lost < 10 ^ 10) : Pu0 (p_law_plan_text K cS cP) [Dat K (.list ((kns.map wordS).map .str)), Dat K (.list (intD (oz ls))), RI lost] (RS (ptext kns ls lost)) := pu_3 fun v u x w h hu hx Q q => by
  cases hx
  have hS := shape_len F
  have hN := nums_len hl hb
  have hv1 : ∀ {x3 x4 : Option V} {w' : Wd}, Le J0 w w' → Ev J0 (tVar 1) [some v, some u, some (.int lost), x3, x4] w' (LstR K ((oz ls).map RI)) := fun e => ev_var (v := u) rfl (lst_ints.mpr (Rp.mono _ e.ef hu))
  have h4 : ("none" : Str).length = 4 := by decide +kernel
  have h3 : (" | " : Str).length = 3 := by decide +kernel
  refine sq_asg (J := J0) (R := RS (lensS ls)) (ev_if (P := (· = !decide (ls = []))) (et_test (ev_gt (a := ls.length) (b := 0) ((ev_lenL (hv1 .rfl)).of (by simp)) ev_cv ?_)) (fun hb' => ?_) (fun hb' => ?_)) fun v3 w1 e1 h1 => ?_
  · cases ls <;> simp
  · have hz : ¬ ls = [] := fun z => by rw [z] at hb'; simp at hb'
    have e : lensS ls = PySem.Txt.join " " (ls.map numS) := by unfold lensS; rw [if_neg hz]
    rw [e]
    refine ev_joinR (K := K) ev_cv ?_ (nums_fits hl hb)
    have hh : Ev J0 (tVar 1) [some v, some u, some (.int lost), none, none] w (LstR K (ls.map fun l : Nat => RI l)) := (hv1 .rfl).of (by rw [List.map_map]; rfl)
    have := ev_lcAll (J := J0) (K := K) (i := 4) (te := tCB rStrI (tCons (tVar 4) tNil)) (E := fun l : Nat => RS (numS l)) hh (by omega) (fun l hl' w1 e1 x hx => ev_num (ev_var (v := x) rfl hx) (hb l hl')) fun _ _ => id
    rw [List.map_map]
    exact this
  · have hz : ls = [] := by
      by_cases z : ls = []
      · exact z
      · rw [decide_eq_false z] at hb'; cases hb'
    have e : lensS ls = "none" := by unfold lensS; rw [if_pos hz]
    rw [e]
    exact ev_cv
  cases h1
  have hlS : (lensS ls).length ≤ 2000 := by
    unfold lensS
    split
    · rw [h4]; omega
    · exact hN
  have hnl := num_len h0
  have big : ∀ n, n ≤ 100000 → n ≤ sizeLine := fun n h => Nat.le_trans h (by decide)
  show tRet _ _ [some v, some u, some (.int lost), some (.str (lensS ls)), none] w1.h
  refine st_ret (J := J0) (R := RS (ptext kns ls lost)) ?_ fun vr wr er hr => q vr wr (e1.trans er) hr
  exact ev_addS (ev_addS (ev_addS (ev_addS (ev_join (K := K) (ys := kns.map wordS) ev_cv (ev_var (i := 0) (v := v) rfl (Rp.mono _ e1.ef h)) (shape_fits F.few F.few F.good)) ev_cv (big _ (by have := hS; unfold shapeS at this; omega))) (ev_is rfl) (big _ (by have := hS; unfold shapeS at this; rw [app_len]; omega))) ev_cv (big _ (by have := hS; unfold shapeS at this; simp only [app_len]; omega))) (ev_num (ev_is rfl) h0) (big _ (by have := hS; unfold shapeS at this; simp only [app_len]; omega))
/-! ### a word read back -/
theorem ev_neg1 : Ev J (tUn (rU fun i => .int (-i)) (tC (.int 1))) σ w (RI (-1)) := fun w' _ Q q => ⟨1, rfl, q _ w' .rfl rfl⟩
theorem ev_ixLast {z : Str} {c : Nat} (h : Ev J ta σ w (RS z)) (hz : z.length ≤ sizeLine) (hc : z.cps.toList.getLast? = some c) : Ev J (tOp rIxS ta (tUn (rU fun i => .int (-i)) (tC (.int 1)))) σ w (RS ⟨#[c]⟩) :=
  ev_op h ev_neg1 fun x y w' _ hx hy Q q => ⟨z, -1, c, hx, hy, hz, by
    rw [List.getLast?_eq_getElem?] at hc
    have hn := (List.getElem?_eq_some_iff.mp hc).1
    unfold atI ixN
    rw [if_neg (by omega), if_pos (by omega)]
    show z.cps.toList[(-1 + (z.cps.toList.length : Int)).toNat]? = some c
    have : (-1 + (z.cps.toList.length : Int)).toNat = z.cps.toList.length - 1 := by omega
    rw [this]
    exact hc, q _ w' .rfl rfl⟩
theorem ev_slLast {z : Str} (h : Ev J ta σ w (RS z)) (hz : z.length ≤ sizeLine) : Ev J (tSl rSlS ta tNoPart (tPart (tUn (rU fun i => .int (-i)) (tC (.int 1))))) σ w (RS ⟨(z.cps.toList.dropLast).toArray⟩) := fun w' e Q q =>
  h w' e _ fun v w1 e1 hv => by
    show tUn (rU fun i => .int (-i)) (tC (.int 1)) σ w1.h fun x H1 => ∃ i, x = .int i ∧ rSlS v none (some i) H1 Q
    refine ev_neg1 (J := J) w1 (e.trans e1) _ fun u w2 e2 hu => ⟨-1, hu, z, hv, hz, q _ w2 (e1.trans e2) ?_⟩
    show V.str (cutS z none (some (-1))) = V.str _
    unfold cutS
    rw [HT.sIx_none]
    have e1 : HT.sIx z.length z.length (some (-1)) = z.length - 1 := by
      show (if (-1 : Int) < 0 then ((-1 : Int) + (z.length : Int)).toNat else min (-1 : Int).toNat z.length) = _
      rw [if_pos (by decide)]
      omega
    have hl : z.cps.toList.length = z.length := Array.length_toList
    rw [e1, List.drop_zero, List.dropLast_eq_take, hl]
    simp
theorem ev_replC {z y u : Str} (h : Ev J ta σ w (RS z)) (hl : z.length + (z.length + 1) * u.length ≤ 16777216) : Ev J (CwR.tReplC ta y u) σ w (RS (PySem.Txt.replace z y u)) := fun w' e Q q => h w' e _ fun v w1 e1 hv => ⟨z, hv, hl, q _ w1 e1 rfl⟩
theorem repl_pre {n : Nat} {kn : Kn} (g : GoodK n kn) : PySem.Txt.replace (preS kn.1) "-" "" = ltr kn.1 := by
  have e : ("-" : Str) = ⟨#[45]⟩ := str_ext mi_l
  rw [e, StrLaws.replace_one]
  by_cases h : kn.1 = []
  · have e2 : preS kn.1 = PySem.Txt.join ⟨#[45]⟩ [⟨#[]⟩, ⟨#[]⟩] := by
      unfold preS preL
      rw [if_pos h]
      rfl
    rw [e2, split_join (by simp) (fun p hp => by
      have : p = ⟨#[]⟩ := by simpa using hp
      subst this
      simp), h]
    rfl
  · have e2 : preS kn.1 = PySem.Txt.join ⟨#[45]⟩ [ltr kn.1] := by
      unfold preS preL
      rw [if_neg h]
      rfl
    rw [e2, split_join (by simp) (fun p hp => by
      have : p = ltr kn.1 := by simpa using hp
      subst this
      intro hm
      have := g.let_ 45 hm
      omega)]
    rfl
theorem split_word {n : Nat} {kn : Kn} (g : GoodK n kn) {k : Nat} (hk : kn.2 = .to k) : PySem.Txt.split (wordS kn) ">" = [preS kn.1, numS k] := by
  have e : (">" : Str) = ⟨#[62]⟩ := str_ext gt_l
  have e2 : wordS kn = PySem.Txt.join ⟨#[62]⟩ [preS kn.1, numS k] := by
    rw [← word_eq, hk, goal_to]
    rfl
  rw [e, e2]
  refine split_join (by simp) fun p hp hm => ?_
  rcases List.mem_cons.mp hp with rfl | hp
  · have := pre_dig g hm
    omega
  · have : p = numS k := by simpa using hp
    subst this
    have := num_dig (k := k) hm
    omega
def wpR (K : PySem.W.Frag) (kn : Kn) : Rp := TupR K [RS (ltr kn.1), RS (sgnS kn.2), goalR kn.2]
theorem pu_word {n : Nat} {kn : Kn} (g : GoodK n kn) (hn : n ≤ 100) : Pu0 (p_law_word K cS cP) [RS (wordS kn)] (wpR K kn) := pu_1 fun v w h Q q => by
  cases h
  have hwl := word_len g hn
  have hlen : (wordS kn).length ≤ 30 := by
    have e : (wordS kn).length = (wordL kn).length := by show (wordL kn).toArray.size = _; simp
    rw [e]; exact hwl
  have hbig : (wordS kn).length ≤ sizeLine := Nat.le_trans hlen (by decide)
  have hpl : (preS kn.1).length ≤ 30 := by
    have e : (preS kn.1).length = (preL kn.1).length := by show (preL kn.1).toArray.size = _; simp
    rw [e]
    unfold wordL at hwl
    simp at hwl
    omega
  have hdot : ("." : Str).cps.toList = [46] := by decide +kernel
  have hbang : ("!" : Str).cps.toList = [33] := by decide +kernel
  have he0 : ("" : Str).length = 0 := rfl
  obtain ⟨c, hc⟩ : ∃ c, (wordS kn).cps.toList.getLast? = some c := by
    cases hh : (wordS kn).cps.toList.getLast? with
    | some c => exact ⟨c, rfl⟩
    | none =>
      have := List.getLast?_eq_none_iff.mp hh
      have e : wordL kn = [] := this
      unfold wordL at e
      simp at e
  have hlast : Ev J0 (tOp rIxS (tVar 0) (tUn (rU fun i => .int (-i)) (tC (.int 1)))) [some (.str (wordS kn)), none] w (RS ⟨#[c]⟩) := ev_ixLast (ev_is rfl) hbig hc
  have hL : wordL kn = preL kn.1 ++ sgn kn.2 :: goalL kn.2 := rfl
  have hc2 : (wordL kn).getLast? = some c := hc
  have key : ∀ x : Str, ∀ a, x.cps.toList = [a] → (!decide (V.str ⟨#[c]⟩ = V.str x)) = !decide (c = a) := fun x a hx => by
    by_cases e : c = a
    · subst e
      rw [decide_eq_true rfl, decide_eq_true (congrArg V.str (str_ext hx.symm))]
    · rw [decide_eq_false e, eq_str_l]
      rw [hx]
      intro h
      exact e (by simpa using h)
  by_cases hto : isTo kn.2 = true
  · obtain ⟨k, hk⟩ : ∃ k, kn.2 = .to k := by
      cases hd : kn.2 with
      | dot => rw [hd] at hto; cases hto
      | bang => rw [hd] at hto; cases hto
      | to k => exact ⟨k, rfl⟩
    have hkn : k < 100 := by have := g.to_ k hk; omega
    have hcd : 48 ≤ c ∧ c ≤ 57 := by
      have hm : c ∈ goalL kn.2 := by
        rw [hL, hk] at hc2
        have hne : goalL (.to k) ≠ [] := num_ne k
        rw [List.getLast?_append, List.getLast?_cons_of_ne_nil hne] at hc2
        rw [hk]
        cases hg : (goalL (.to k)).getLast? with
        | none => exact absurd (List.getLast?_eq_none_iff.mp hg) hne
        | some d =>
          rw [hg] at hc2
          have : d = c := by simpa using hc2
          subst this
          exact List.mem_of_getLast? hg
      exact goal_dig hm
    refine st_ifS (J := J0) (et_and (a := true) (b := true) (et_test (ev_ne hlast ev_cv rfl (by rw [key _ _ hdot, decide_eq_false (by omega)]; rfl))) (fun _ => et_test (ev_ne hlast ev_cv rfl (by rw [key _ _ hbang, decide_eq_false (by omega)]; rfl))) rfl) (fun _ w1 e1 => ?_) (fun h => nomatch h)
    refine sq_asg (J := J0) (ev_split (K := K) (ev_is (v := .str (wordS kn)) rfl) ev_cv rfl (Nat.le_trans (show (wordS kn).length + 2 ≤ 100 by omega) (by decide))) fun vs w2 e2 hs => ?_
    rw [split_word g hk] at hs
    have hv : Ev J0 (tVar 1) [some (.str (wordS kn)), some vs] w2 (LstR K [RS (preS kn.1), RS (numS k)]) := ev_var (v := vs) rfl hs
    show tRet _ _ [some (.str (wordS kn)), some vs] w2.h
    have hnl := num_len (k := k) (by omega)
    refine st_ret (J := J0) (R := wpR K kn) ?_ fun vr wr er hr => q vr wr ((e1.trans e2).trans er) hr
    unfold wpR
    rw [hk]
    exact ev_tup (ea_cons ((ev_replC (ev_ixL (n := 0) hv ev_cv rfl) (by rw [he0]; omega)).of (by rw [repl_pre g])) (ea_cons (ev_c fun _ => congrArg V.str (str_ext gt_l)) (ea_cons (ev_intS (ev_ixL (n := 1) hv ev_cv rfl) (num_back (by omega)) (by omega)) ea_nil))) (by simp)
  · have hno : isTo kn.2 = false := by simpa using hto
    have hg0 : goalL kn.2 = [] := by
      cases hd : kn.2 with
      | dot => rfl
      | bang => rfl
      | to k => rw [hd] at hno; cases hno
    have hcs : c = sgn kn.2 := by
      rw [hL, hg0] at hc2
      simpa using hc2.symm
    have hgn : goalR kn.2 = Is .non := by
      cases hd : kn.2 with
      | dot => rfl
      | bang => rfl
      | to k => rw [hd] at hno; cases hno
    refine st_skip (J := J0) (et_and (a := !decide (c = 46)) (b := !decide (c = 33)) (et_test (ev_ne hlast ev_cv rfl (key _ _ hdot))) (fun _ => et_test (ev_ne hlast ev_cv rfl (key _ _ hbang))) (by
      rw [hcs]
      cases hd : kn.2 with
      | dot => rfl
      | bang => rfl
      | to k => rw [hd] at hno; cases hno)) fun w1 e1 => ?_
    show tRet _ _ [some (.str (wordS kn)), none] w1.h
    refine st_ret (J := J0) (R := wpR K kn) ?_ fun vr wr er hr => q vr wr (e1.trans er) hr
    unfold wpR
    rw [hgn]
    refine ev_tup (ea_cons ((ev_replC (z := preS kn.1) ((ev_slLast (ev_is (v := .str (wordS kn)) rfl) hbig).of ?_) (by rw [he0]; omega)).of (by rw [repl_pre g])) (ea_cons ((hlast.le e1).of (by rw [hcs]; rfl)) (ea_cons ev_cv ea_nil))) (by simp)
    have : (wordS kn).cps.toList = preL kn.1 ++ [sgn kn.2] := by show wordL kn = _; rw [hL, hg0]
    rw [this, List.dropLast_concat]
    rfl
end
end Z
end

section -- P25
set_option Elab.async false
set_option linter.all false
set_option maxRecDepth 100000
set_option maxHeartbeats 4000000
set_option autoImplicit false
namespace Z
open PySem PySem.Spec L2 K07
open M7 (Names Cells Kn Kd startsGo cellsGo)
section
variable {J : Addr → Prop} {σ : St} {w w0 w1 : Wd} {ta tb tc t te : TE} {ts : TA} {K : PySem.W.Frag} {cS cP : Addr} {mg : PySem.Str → Option Value} {D : Ends} {sa rest : TS} {g g1 : TG} {i j k m : Nat} {R Ra Rb Rc : Rp} {Rs Ss : List Rp} {kns : List Kn} {prs : List (Nat × Nat)} {ls : List Nat} {lost : Nat}
theorem sq_app {l : Addr} {xs : List V} (hl : Own w l (.lst xs)) (hj : ¬ J l) (hv : σ[i]? = some (some (.ref l))) (h : Ev J te σ w R) (hz : xs.length < 100000) (k : ∀ v w1 w2, Le J w w1 → R.r w1.f v → Mt l (.lst (xs ++ [v])) w1 w2 → rest D σ w2.h) :
    tSeq (tDrop (tBM K "list" rAppend (tVar i) (tCons te tNil))) rest D σ w.h := st_app (D := { D with nx := rest D }) hl hj hv h hz k
/-- the starts without the gone places -/
def st1 : List Kn → List Nat → Nat → List Int
  | [], _, _ => []
  | (_, .to _) :: ks, ls, c => ((c : Int) + 1) :: st1 ks ls.tail (c + ls.headD 0)
  | _ :: ks, ls, c => 0 :: st1 ks ls c
theorem st1_no {kn : Kn} {ks : List Kn} {c : Nat} (h : isTo kn.2 = false) : st1 (kn :: ks) ls c = 0 :: st1 ks ls c := by
  obtain ⟨a, d⟩ := kn
  cases d with
  | dot => rfl
  | bang => rfl
  | to k => cases h
theorem st1_len : ∀ (kns : List Kn) (ls : List Nat) (c : Nat), (st1 kns ls c).length = kns.length
  | [], _, _ => rfl
  | (_, .dot) :: ks, ls, c => by simp [st1, st1_len ks]
  | (_, .bang) :: ks, ls, c => by simp [st1, st1_len ks]
  | (_, .to _) :: ks, ls, c => by simp [st1, st1_len ks]
theorem st_setL {l : Addr} {xs : List V} {n : Nat} (hl : Own w l (.lst xs)) (hv : σ[i]? = some (some (.ref l))) (h : Ev J0 te σ w R) (hi : Ev J0 tb σ w (RI n)) (hn : n < xs.length)
    (k : ∀ v w1 w2, Le J0 w w1 → R.r w1.f v → Mt l (.lst (xs.set n v)) w1 w2 → rest D σ w2.h) : tSeq (tAsg te (gSub (tVar i) tb rSetL)) rest D σ w.h :=
  h w .rfl _ fun v w1 e1 hv1 => ⟨.ref l, hv, hi w1 e1 _ fun u w2 e2 hu => ⟨l, xs, n, n, rfl, hu, (hl.le0 (e1.trans e2)).h, by
    unfold ixN
    rw [if_pos (by omega), if_pos (by omega)]
    simp, k v w2 (w2.put l _ (hl.le0 (e1.trans e2)).f) (e1.trans e2) (R.mono e2.ef hv1) (Wd.put_mt _)⟩⟩
/-- the cells of one stretch as the law lays them -/
def rowC (s : Int) (n : Nat) (e : Int) : Cells := ((List.range (n - 1)).map fun (j : Nat) => (s + (j : Int), s + (j : Int) + 1)) ++ [(s + (n : Int) - 1, e)]
theorem row_len {s : Int} {n : Nat} {e : Int} (h : 1 ≤ n) : (rowC s n e).length = n := by simp [rowC]; omega
theorem row_get {s : Int} {n : Nat} {e : Int} {j : Nat} (hn : 1 ≤ n) (h : j < n) : (rowC s n e)[j]'(by rw [row_len hn]; exact h) = (s + (j : Int), if (j : Int) + 1 < n then s + (j : Int) + 1 else e) := by
  unfold rowC
  by_cases hj : j < n - 1
  · rw [List.getElem_append_left (by simpa using hj)]
    rw [if_pos (by omega)]
    simp
  · have : j = n - 1 := by omega
    subst this
    rw [List.getElem_append_right (by simp)]
    rw [if_neg (by omega)]
    simp
    omega
theorem pu_canon (F : KnF kns prs) (hl : ls.length = (kns.filter fun kn => isTo kn.2).length) (h1 : ∀ l ∈ ls, 1 ≤ l ∧ l ≤ 100) (h0 : lost ≤ 100)
    (hasc : (cellsGo (stOf kns ls lost) kns (stOf kns ls lost) ls).Pairwise fun a b => a.1 < b.1) (hcl : (cellsGo (stOf kns ls lost) kns (stOf kns ls lost) ls).length = ls.sum) (hsum : ls.sum < 64) :
    Pu0 (p_law_canon K cS cP) [Dat K (.list ((kns.map wordS).map .str)), Dat K (.list (intD (oz ls))), RI lost] (Dat K (.tuple [.tuple ((nnOf prs (stOf kns ls lost)).map nmD), .tuple ((ccOf kns ls lost).map clD)])) := pu_3 fun v u x w h hu hx Q q => by
  cases hx
  have hfew := F.few
  have h4 := F.four
  have hst : (stOf kns ls lost).length = kns.length := starts_len _ _ _ _
  have hwp : Ev J0 (tLc (iList K (tVar 0)) (gName 16) tYes (tCl (p_law_word K cS cP) (tCons (tVar 16) tNil)) [16]) (start N_law_canon [v, u, .int lost]) w (LstR K (kns.map (wpR K))) := by
    have hv : Ev J0 (tVar 0) (start N_law_canon [v, u, .int lost]) w (LstR K (kns.map fun kn => RS (wordS kn))) := (ev_var (i := 0) (R := LstR K ((kns.map wordS).map RS)) (v := v) rfl (lst_strs.mpr h)).of (by rw [List.map_map]; rfl)
    exact ev_lcAll hv (by omega) (fun kn hk w1 e1 y hy => ev_cl (ea_cons (ev_var (v := y) rfl hy) ea_nil) (pu_word (F.good kn hk) hfew).pu) fun _ _ => id
  refine sq_tup4N (J := J0) hwp (Rb := RI 1) (Rc := RI 0) ev_cv ev_cv (fun _ _ => id) fun l vp y z w1 e1 hl0 own1 hp hy hz => ?_
  cases hy
  cases hz
  show tSeq _ _ _ [some v, some u, some (.int lost), some vp, some (.ref l), some (.int 1), some (.int 0), none, none, none, none, none, none, none, none, none, none, none] w1.h
  have hvp : ∀ {x0 x1 x2 x4 x5 x6 x7 x8 x9 x10 x11 x12 x13 x14 x15 x16 x17 : Option V} {w' : Wd}, Exf w1.f w'.f → Ev J0 (tVar 3) [x0, x1, x2, some vp, x4, x5, x6, x7, x8, x9, x10, x11, x12, x13, x14, x15, x16, x17] w' (LstR K (kns.map (wpR K))) := fun e => ev_var (v := vp) rfl (Rp.mono _ e hp)
  have hvu : ∀ {x0 x2 x3 x4 x5 x6 x7 x8 x9 x10 x11 x12 x13 x14 x15 x16 x17 : Option V} {w' : Wd}, Exf w1.f w'.f → Ev J0 (tVar 1) [x0, some u, x2, x3, x4, x5, x6, x7, x8, x9, x10, x11, x12, x13, x14, x15, x16, x17] w' (LstR K ((oz ls).map RI)) := fun e => ev_var (v := u) rfl (lst_ints.mpr (Rp.mono _ e (Rp.mono _ e1.ef hu)))
  have hpl : (kns.map (wpR K)).length = kns.length := List.length_map _
  have hsplit : ∀ i (hi : i < kns.length), isTo kns[i].2 = true → ((kns.take i).filter fun kn => isTo kn.2).length < ls.length := fun i hi hto => by
    have hdrop : kns.drop i = kns[i] :: kns.drop (i + 1) := List.drop_eq_getElem_cons hi
    have h2 : (kns.filter fun kn => isTo kn.2) = (kns.take i).filter (fun kn => isTo kn.2) ++ (kns.drop i).filter (fun kn => isTo kn.2) := by rw [← List.filter_append, List.take_append_drop]
    rw [hl, h2, hdrop, List.length_append, List.filter_cons_of_pos (p := fun kn : Kn => isTo kn.2) hto]
    simp
  have hcnt1 : ∀ i (hi : i < kns.length), ((kns.take (i + 1)).filter fun kn => isTo kn.2).length = ((kns.take i).filter fun kn => isTo kn.2).length + if isTo kns[i].2 then 1 else 0 := fun i hi => by
    rw [List.take_succ_eq_append_getElem hi, List.filter_append, List.length_append]
    congr 1
    cases hto : isTo kns[i].2 with
    | true => rw [List.filter_cons_of_pos (p := fun kn : Kn => isTo kn.2) hto, if_pos rfl]; rfl
    | false => rw [List.filter_cons_of_neg (p := fun kn : Kn => isTo kn.2) (by rw [hto]; decide), if_neg (by decide)]; rfl
  have toK : ∀ {d : Kd}, isTo d = true → ∃ k, d = .to k := fun {d} h => by
    cases d with
    | dot => cases h
    | bang => cases h
    | to k => exact ⟨k, rfl⟩
  refine sq_for (J := J0) (hpl ▸ src_list (hvp fun _ _ h => h)) (fun i σ1 w2 => Le J0 w w2 ∧ Exf w1.f w2.f ∧ ∃ (ss : List Int) (c n : Nat), ∃ x7 x8 x9, σ1 = [some v, some u, some (.int lost), some vp, some (.ref l), some (.int ((c + 1 : Nat) : Int)), some (.int n), x7, x8, x9, none, none, none, none, none, none, none, none] ∧ Own w2 l (.lst (ss.map V.int)) ∧
      ss ++ st1 (kns.drop i) (ls.drop n) c = st1 kns ls 0 ∧ n = ((kns.take i).filter fun kn => isTo kn.2).length ∧ c + (ls.drop n).sum = ls.sum)
    (fun w2 e2 => ⟨e1.trans e2, e2.ef, [], 0, 0, none, none, none, rfl, own1.le0 e2, rfl, rfl, by simp⟩) ?_ ?_
  · rintro i σ1 w2 hi ⟨l2, ef2, ss, c, n, x7, x8, x9, rfl, own2, hrest, hn, hcs⟩ z w3 e3 hz Kk bk hK
    rw [getD_map hi] at hz
    have hdrop : kns.drop i = kns[i] :: kns.drop (i + 1) := List.drop_eq_getElem_cons hi
    have hssl : ss.length ≤ 100 := by
      have := congrArg List.length hrest
      rw [List.length_append, st1_len, st1_len] at this
      omega
    refine g_three hz fun a b d ha hb hd => ?_
    cases ha
    cases hb
    have hc1 := hcnt1 i hi
    have hsp := hsplit i hi
    generalize hkn : kns[i] = kn at hd hdrop hc1 hsp
    have own3 := own2.le0 e3
    have l3 := l2.trans e3
    show tSeq _ _ _ [some v, some u, some (.int lost), some vp, some (.ref l), some (.int ((c + 1 : Nat) : Int)), some (.int n), some (.str (ltr kn.1)), some (.str (sgnS kn.2)), some d, none, none, none, none, none, none, none, none] w3.h
    rw [hdrop] at hrest
    cases hto : isTo kn.2 with
    | true =>
      obtain ⟨kk, hk⟩ := toK hto
      have hnl : n < ls.length := by rw [hn]; exact hsp hto
      have hdl : ls.drop n = ls[n] :: ls.drop (n + 1) := List.drop_eq_getElem_cons hnl
      have hre : (kn :: kns.drop (i + 1)) = (kn.1, .to kk) :: kns.drop (i + 1) := by rw [← hk]
      rw [hdl, hre] at hrest
      have hrest : ss ++ (((c : Int) + 1) :: st1 (kns.drop (i + 1)) (ls.drop (n + 1)) (c + ls[n])) = st1 kns ls 0 := hrest
      refine sq_app (J := J0) (R := RI ((c + 1 : Nat) : Int)) own3 id rfl (ev_if (P := (· = true)) (et_test (ev_eq (ev_is rfl) ev_cv rfl (by rw [f2, hto]))) (fun _ => ev_is rfl) (fun h => nomatch h)) (by rw [List.length_map]; omega) fun u4 w4 w5 e4 h4 m5 => ?_
      cases h4
      have own4 := own3.le0 e4
      have own5 := m5.own own4.f
      have l5 := (l3.trans e4).mt m5 hl0 own4.f
      have ef5 : Exf w2.f w5.f := fun p o h => m5.ef p o (e4.ef p o (e3.ef p o h))
      show tIfS _ _ _ _ [some v, some u, some (.int lost), some vp, some (.ref l), some (.int ((c + 1 : Nat) : Int)), some (.int n), some (.str (ltr kn.1)), some (.str (sgnS kn.2)), some d, none, none, none, none, none, none, none, none] w5.h
      refine st_if (J := J0) (P := (· = true)) (et_test (ev_eq (ev_is rfl) ev_cv rfl (by rw [f2, hto]))) (fun _ w6 e6 => ?_) (fun h => nomatch h)
      refine ea_cons (J := J0) (R := RI ((c + ls[n] + 1 : Nat) : Int)) ((ev_add (a := ((c + 1 : Nat) : Int)) (b := ls[n]) (ev_is rfl) (ev_ixL (n := n) (hvu fun p o h => e6.ef p o (ef5 p o (ef2 p o h))) (ev_is rfl) (by simp [hnl]))).of (by congr 2; omega)) (ea_cons (R := RI ((n + 1 : Nat) : Int)) ((ev_add (a := n) (b := 1) (ev_is rfl) ev_cv).of (by congr 2)) ea_nil) w6 .rfl _ fun vs w7 e7 hvs => ?_
      obtain ⟨y1, vs, rfl, hy1, hvs⟩ := hvs.cons_inv
      obtain ⟨y2, vs, rfl, hy2, hvs⟩ := hvs.cons_inv
      cases hvs.nil_inv
      cases hy1
      cases hy2
      have efx : Exf w2.f w7.f := fun p o h => e7.ef p o (e6.ef p o (ef5 p o h))
      refine ⟨_, _, rfl, hK _ w7 efx ⟨(l5.trans e6).trans e7, fun p o h => efx p o (ef2 p o h), ss ++ [((c + 1 : Nat) : Int)], c + ls[n], n + 1, _, _, _, rfl, ?_, ?_, ?_, ?_⟩⟩
      · rw [List.map_append]
        exact (own5.le0 e6).le0 e7
      · rw [← hrest]
        simp
      · rw [hc1, hto, ← hn]
        rfl
      · rw [hdl, List.sum_cons] at hcs
        omega
    | false =>
      rw [st1_no hto] at hrest
      refine sq_app (J := J0) (R := RI 0) own3 id rfl (ev_if (P := (· = false)) (et_test (ev_eq (ev_is rfl) ev_cv rfl (by rw [f2, hto]))) (fun h => nomatch h) (fun _ => ev_cv)) (by rw [List.length_map]; omega) fun u4 w4 w5 e4 h4 m5 => ?_
      cases h4
      have own4 := own3.le0 e4
      have own5 := m5.own own4.f
      have l5 := (l3.trans e4).mt m5 hl0 own4.f
      have ef5 : Exf w2.f w5.f := fun p o h => m5.ef p o (e4.ef p o (e3.ef p o h))
      show tIfS _ _ _ _ [some v, some u, some (.int lost), some vp, some (.ref l), some (.int ((c + 1 : Nat) : Int)), some (.int n), some (.str (ltr kn.1)), some (.str (sgnS kn.2)), some d, none, none, none, none, none, none, none, none] w5.h
      refine st_if (J := J0) (P := (· = false)) (et_test (ev_eq (ev_is rfl) ev_cv rfl (by rw [f2, hto]))) (fun h => nomatch h) (fun _ w6 e6 => ?_)
      have efx : Exf w2.f w6.f := fun p o h => e6.ef p o (ef5 p o h)
      refine hK _ w6 efx ⟨l5.trans e6, fun p o h => efx p o (ef2 p o h), ss ++ [0], c, n, _, _, _, rfl, ?_, ?_, ?_, hcs⟩
      · rw [List.map_append]
        exact own5.le0 e6
      · rw [← hrest]
        simp
      · rw [hc1, hto, ← hn]
        rfl
  rintro σ1 w2 ⟨l2, ef2, ss, c, n, x7, x8, x9, rfl, own2, hrest, hn, hcs⟩
  have hss : ss = st1 kns ls 0 := by
    rw [← hrest, List.drop_length]
    show ss = ss ++ []
    simp
  subst hss
  have hc : c = ls.sum := by
    rw [List.take_length, ← hl] at hn
    subst hn
    rw [List.drop_length] at hcs
    simpa using hcs
  subst hc
  refine sq_asgG (J := J0) (R := TupR K [RI ((ls.sum + 1 : Nat) : Int), RI ((ls.sum + lost + 1 : Nat) : Int)]) (ev_tup (ea_cons (ev_is rfl) (ea_cons ((ev_add (a := ((ls.sum + 1 : Nat) : Int)) (b := lost) (ev_is rfl) (ev_is (i := 2) rfl)).of (by congr 2; omega)) ea_nil)) (by simp)) fun vt w3 e3 ht => g_two ht fun a b ha hb => ?_
  cases ha
  cases hb
  have l3 := l2.trans e3
  have ef3 : Exf w1.f w3.f := fun p o h => e3.ef p o (ef2 p o h)
  have own3 := own2.le0 e3
  show tSeq _ _ _ [some v, some u, some (.int lost), some vp, some (.ref l), some (.int ((ls.sum + lost + 1 : Nat) : Int)), some (.int n), x7, x8, x9, some (.int ((ls.sum + 1 : Nat) : Int)), none, none, none, none, none, none, none] w3.h
  have hrng := src_rng1 (J := J0) (σ := [some v, some u, some (.int lost), some vp, some (.ref l), some (.int ((ls.sum + lost + 1 : Nat) : Int)), some (.int n), x7, x8, x9, some (.int ((ls.sum + 1 : Nat) : Int)), none, none, none, none, none, none, none]) (w := w3) (te := tCB (rLenQ K) (tCons (tVar 3) tNil)) (n := (kns.length : Int)) ((ev_lenL (hvp ef3)).of (by rw [hpl])) (by omega) (by omega)
  have hkn : ((kns.length : Int)).toNat = kns.length := by omega
  rw [hkn] at hrng
  refine sq_for (J := J0) hrng (fun i σ1 w4 => Le J0 w w4 ∧ Exf w1.f w4.f ∧ ∃ (pre lr : _) (c g : Nat), ∃ x11, σ1 = [some v, some u, some (.int lost), some vp, some (.ref l), some (.int ((g + 1 : Nat) : Int)), some (.int n), x7, x8, x9, some (.int ((ls.sum + 1 : Nat) : Int)), x11, none, none, none, none, none, none] ∧ Own w4 l (.lst ((pre ++ st1 (kns.drop i) lr c).map V.int)) ∧
      pre ++ startsGo (kns.drop i) lr c g = stOf kns ls lost ∧ pre.length = i)
    (fun w4 e4 => ⟨l3.trans e4, fun p o h => e4.ef p o (ef3 p o h), [], ls, 0, ls.sum + lost, none, rfl, own3.le0 e4, rfl, rfl⟩) ?_ ?_
  · rintro i σ1 w4 hi ⟨l4, ef4, pre, lr, c, g, x11, rfl, own4, hpre, hpl4⟩ z w5 e5 hz Kk bk hK
    cases hz
    have hdrop : kns.drop i = kns[i] :: kns.drop (i + 1) := List.drop_eq_getElem_cons hi
    have l5 := l4.trans e5
    have own5 := own4.le0 e5
    have ef5 : Exf w1.f w5.f := fun p o h => e5.ef p o (ef4 p o h)
    have hbang : ("!" : Str).cps.toList = [33] := by decide +kernel
    have hsg : decide (V.str (sgnS kns[i].2) = V.str "!") = decide (kns[i].2 = .bang) := by
      cases hd : kns[i].2 with
      | dot => exact eq_str_l (by rw [hbang]; show [46] ≠ [33]; decide)
      | bang => exact decide_eq_true (congrArg V.str (str_ext hbang.symm))
      | to k => exact eq_str_l (by rw [hbang]; show [62] ≠ [33]; decide)
    have hsgn : Ev J0 (tOp (rIxT K) (tOp (rIxL K) (tVar 3) (tVar 11)) (tC (.int 1))) [some v, some u, some (.int lost), some vp, some (.ref l), some (.int ((g + 1 : Nat) : Int)), some (.int n), x7, x8, x9, some (.int ((ls.sum + 1 : Nat) : Int)), some (.int i), none, none, none, none, none, none] w5 (RS (sgnS kns[i].2)) :=
      ev_ixT (n := 1) (Rs := [RS (ltr kns[i].1), RS (sgnS kns[i].2), goalR kns[i].2]) (ev_ixL (n := i) (hvp ef5) (ev_is rfl) (by rw [List.getElem?_map, List.getElem?_eq_getElem hi]; rfl)) ev_cv rfl
    rw [hdrop] at hpre own4 own5
    show tIfS _ _ _ _ [some v, some u, some (.int lost), some vp, some (.ref l), some (.int ((g + 1 : Nat) : Int)), some (.int n), x7, x8, x9, some (.int ((ls.sum + 1 : Nat) : Int)), some (.int i), none, none, none, none, none, none] w5.h
    generalize hkn2 : kns[i] = kn at hpre own4 own5 hsg hsgn
    obtain ⟨lt', d⟩ := kn
    cases d with
    | bang =>
      have hpre : pre ++ (((g : Int) + 1) :: startsGo (kns.drop (i + 1)) lr c (g + 1)) = stOf kns ls lost := hpre
      have own5 : Own w5 l (.lst ((pre ++ (0 :: st1 (kns.drop (i + 1)) lr c)).map V.int)) := own5
      refine st_if (J := J0) (P := (· = true)) (et_test (ev_eq hsgn ev_cv rfl (by rw [hsg]; rfl))) (fun _ w6 e6 => ?_) (fun h => nomatch h)
      refine st_setL (R := RI ((g + 1 : Nat) : Int)) (own5.le0 e6) rfl (ev_is (i := 5) rfl) (ev_is (i := 11) (v := .int i) rfl) (by simp; omega) fun u7 w7 w8 e7 h7 m8 => ?_
      cases h7
      have own7 := (own5.le0 e6).le0 e7
      have own8 := m8.own own7.f
      have l8 := ((l5.trans e6).trans e7).mt m8 hl0 own7.f
      refine st_asg (J := J0) (R := RI ((g + 1 + 1 : Nat) : Int)) ((ev_add (a := ((g + 1 : Nat) : Int)) (b := 1) (ev_is rfl) ev_cv).of (by congr 2)) fun u9 w9 e9 h9 => ?_
      cases h9
      have efx : Exf w4.f w9.f := fun p o h => e9.ef p o (m8.ef p o (e7.ef p o (e6.ef p o (e5.ef p o h))))
      refine hK _ w9 efx ⟨l8.trans e9, fun p o h => efx p o (ef4 p o h), pre ++ [((g + 1 : Nat) : Int)], lr, c, g + 1, _, rfl, ?_, ?_, by simp; omega⟩
      · have e : ((pre ++ (0 :: st1 (kns.drop (i + 1)) lr c)).map V.int).set i (V.int ((g + 1 : Nat) : Int)) = ((pre ++ [((g + 1 : Nat) : Int)]) ++ st1 (kns.drop (i + 1)) lr c).map V.int := by
          rw [← List.map_set, List.set_append_right _ _ (by omega)]
          have : i - pre.length = 0 := by omega
          rw [this]
          simp
        rw [← e]
        exact own8.le0 e9
      · rw [← hpre]
        simp
    | dot =>
      have hpre : pre ++ (0 :: startsGo (kns.drop (i + 1)) lr c g) = stOf kns ls lost := hpre
      have own5 : Own w5 l (.lst ((pre ++ (0 :: st1 (kns.drop (i + 1)) lr c)).map V.int)) := own5
      refine st_if (J := J0) (P := (· = false)) (et_test (ev_eq hsgn ev_cv rfl (by rw [hsg]; rfl))) (fun h => nomatch h) (fun _ w6 e6 => ?_)
      have efx : Exf w4.f w6.f := fun p o h => e6.ef p o (e5.ef p o h)
      refine hK _ w6 efx ⟨l5.trans e6, fun p o h => efx p o (ef4 p o h), pre ++ [0], lr, c, g, _, rfl, ?_, by rw [← hpre]; simp, by simp; omega⟩
      have := own5.le0 e6
      simpa using this
    | to kk =>
      have hpre : pre ++ (((c : Int) + 1) :: startsGo (kns.drop (i + 1)) lr.tail (c + lr.headD 0) g) = stOf kns ls lost := hpre
      have own5 : Own w5 l (.lst ((pre ++ (((c : Int) + 1) :: st1 (kns.drop (i + 1)) lr.tail (c + lr.headD 0))).map V.int)) := own5
      refine st_if (J := J0) (P := (· = false)) (et_test (ev_eq hsgn ev_cv rfl (by rw [hsg]; rfl))) (fun h => nomatch h) (fun _ w6 e6 => ?_)
      have efx : Exf w4.f w6.f := fun p o h => e6.ef p o (e5.ef p o h)
      refine hK _ w6 efx ⟨l5.trans e6, fun p o h => efx p o (ef4 p o h), pre ++ [(c : Int) + 1], lr.tail, c + lr.headD 0, g, _, rfl, ?_, by rw [← hpre]; simp, by simp; omega⟩
      have := own5.le0 e6
      simpa using this
  rintro σ1 w4 ⟨l4, ef4, pre, lr, c, g, x11, rfl, own4, hpre, hpl4⟩
  rw [List.drop_length] at own4 hpre
  have hpre2 : pre = stOf kns ls lost := by
    have : pre ++ [] = stOf kns ls lost := hpre
    simpa using this
  subst hpre2
  have own4 : Own w4 l (.lst ((stOf kns ls lost).map V.int)) := by
    have : Own w4 l (.lst ((stOf kns ls lost ++ []).map V.int)) := own4
    simpa using this
  -- the starts stand from here on
  have l5 : Le J0 w (w4.pub l _ own4.h) := l4.pub hl0 own4.h
  have hst5 : (LstR K ((stOf kns ls lost).map RI)).r (w4.pub l _ own4.h).f (.ref l) := pub_lst own4 (allR_ints.mpr rfl)
  have ef5 : Exf w1.f (w4.pub l _ own4.h).f := fun p o h => pub_ef own4.h own4.f p o (ef4 p o h)
  have hgo : ∀ w5, w5 = w4.pub l _ own4.h → w4.h = w5.h := fun w5 e => by subst e; rfl
  obtain ⟨w5, hw5⟩ : ∃ w5, w5 = w4.pub l _ own4.h := ⟨_, rfl⟩
  rw [hgo w5 hw5]
  rw [← hw5] at l5 hst5 ef5
  clear hgo hw5 own4 hpre
  refine st_par3 (en_lst (J := J0) ea_nil (by simp) w5 .rfl _ fun pn o w6 e6 hpn own6 ⟨xs, ho, hxs⟩ => en_lst (J := J0) (w := w6) ea_nil (by simp) w6 .rfl _ fun lc o' w7 e7 hlc own7 ⟨ys, ho', hys⟩ => ?_)
  cases hxs.nil_inv
  cases hys.nil_inv
  subst ho
  subst ho'
  have hpn0 : w.h pn = none := l5.fresh hpn
  have hlc0 : w.h lc = none := (l5.trans e6).fresh hlc
  have ncn : lc ≠ pn := fun z => by subst z; rw [own6.h] at hlc; cases hlc
  have l7 := (l5.trans e6).trans e7
  have own6' := own6.le0 e7
  have l8 : Le J0 w (w7.pub pn _ own6'.h) := l7.pub hpn0 own6'.h
  have own8 := own7.pub own6'.h ncn
  have ef8 : Exf w5.f (w7.pub pn _ own6'.h).f := fun p o h => pub_ef own6'.h own6'.f p o ((e6.trans e7).ef p o h)
  have hn8 : (LsX (([] : Names).map (nmR K))).r (w7.pub pn _ own6'.h).f (.ref pn) := ⟨pn, _, rfl, pub_at own6'.h, trivial⟩
  show tSeq (tFor (iEnum K (tCons (tVar 3) tNil)) (gTup K 2 (gCons (gName 11) (gCons (gTup K 3 (gCons (gName 7) (gCons (gName 8) (gCons (gName 9) gNil)))) gNil))) _) _ { nx := fun _ H' => Q .non H', rt := Q } [some v, some u, some (.int lost), some vp, some (.ref l), some (.int ((g + 1 : Nat) : Int)), some (.int 0), x7, x8, x9, some (.int ((ls.sum + 1 : Nat) : Int)), x11, some (.ref pn), some (.ref lc), none, none, none, none] (w7.pub pn _ own6'.h).h
  generalize w7.pub pn _ own6'.h = w8 at l8 own8 ef8 hn8
  have hstv : ∀ {x0 x1 x2 x3 x5 x6 x7 x8 x9 x10 x11 x12 x13 x14 x15 x16 x17 : Option V} {w' : Wd}, Exf w5.f w'.f → Ev J0 (tVar 4) [x0, x1, x2, x3, some (.ref l), x5, x6, x7, x8, x9, x10, x11, x12, x13, x14, x15, x16, x17] w' (LstR K ((stOf kns ls lost).map RI)) := fun e => ev_var (v := .ref l) rfl (Rp.mono _ e hst5)
  have hfullc : ∀ (fs rst : Cells), fs ++ rst = cellsGo (stOf kns ls lost) kns (stOf kns ls lost) ls → fs.length ≤ 64 := fun fs rst e => by
    have := congrArg List.length e
    rw [List.length_append, hcl] at this
    omega
  refine sq_for (J := J0) (hpl ▸ src_enum (K := K) (hvp fun p o h => ef8 p o (ef5 p o h))) (fun i σ1 w9 => Le J0 w w9 ∧ Exf w5.f w9.f ∧ ∃ (fs : Cells) (n : Nat), ∃ vn x7 x8 x9 x11 x14 x15 xs, σ1 = [some v, some u, some (.int lost), some vp, some (.ref l), some (.int ((g + 1 : Nat) : Int)), some (.int n), x7, x8, x9, some (.int ((ls.sum + 1 : Nat) : Int)), x11, some vn, some (.ref lc), x14, x15, none, none] ∧
      (LsX (((dn kns i).map fun q => (q.1, (stOf kns ls lost).getD q.2 0)).map (nmR K))).r w9.f vn ∧ Own w9 lc (.lst xs) ∧ AllR w9.f (fs.map (clR K)) xs ∧
      fs ++ cellsGo (stOf kns ls lost) (kns.drop i) ((stOf kns ls lost).drop i) (ls.drop n) = cellsGo (stOf kns ls lost) kns (stOf kns ls lost) ls ∧ n = ((kns.take i).filter fun kn => isTo kn.2).length)
    (fun w9 e9 => ⟨l8.trans e9, fun p o h => e9.ef p o (ef8 p o h), [], 0, .ref pn, x7, x8, x9, x11, none, none, [], rfl, Rp.mono _ e9.ef hn8, own8.le0 e9, trivial, rfl, rfl⟩) ?_ ?_
  · rintro i σ1 w9 hi ⟨l9, ef9, fs, n, vn, y7, y8, y9, y11, x14, x15, xs, rfl, hvn, own9, all9, hrest, hn⟩ z w10 e10 hz Kk bk hK
    rw [getD_map hi] at hz
    have hdrop : kns.drop i = kns[i] :: kns.drop (i + 1) := List.drop_eq_getElem_cons hi
    have hsi : i < (stOf kns ls lost).length := by omega
    have hdst : (stOf kns ls lost).drop i = (stOf kns ls lost)[i] :: (stOf kns ls lost).drop (i + 1) := List.drop_eq_getElem_cons hsi
    have gi := F.good _ (List.getElem_mem hi)
    have gL := goodL gi hfew
    have hc1 := hcnt1 i hi
    have hsp := hsplit i hi
    have hdn : dn kns (i + 1) = dn kns i ++ kns[i].1.map fun c => (c, i) := by rw [dn_succ, getD_at hi]
    have hdnl : (dn kns i).length ≤ 4 := by
      have : ∀ d, (dn kns i).length ≤ (dn kns (i + d)).length := by
        intro d
        induction d with
        | zero => exact Nat.le_refl _
        | succ d ih => rw [← Nat.add_assoc, dn_succ, List.length_append]; omega
      have h2 := this (kns.length - i)
      rw [show i + (kns.length - i) = kns.length by omega, F.perm.length_eq] at h2
      omega
    have l10 := l9.trans e10
    have ef10 : Exf w5.f w10.f := fun p o h => e10.ef p o (ef9 p o h)
    obtain ⟨az, zs, rfl, hzt, hza⟩ := hz
    obtain ⟨zi, zs, rfl, hzi, hza⟩ := hza.cons_inv
    obtain ⟨zp, zs, rfl, hzp, hza⟩ := hza.cons_inv
    cases hza.nil_inv
    cases hzi
    refine ⟨az, _, rfl, sqT_h w10 hzt, rfl, _, _, rfl, _, _, rfl, ?_⟩
    refine g_three (σ := [some v, some u, some (.int lost), some vp, some (.ref l), some (.int ((g + 1 : Nat) : Int)), some (.int n), y7, y8, y9, some (.int ((ls.sum + 1 : Nat) : Int)), some (.int i), some vn, some (.ref lc), x14, x15, none, none]) hzp fun a b d ha hb hd => ⟨rfl, ?_⟩
    cases ha
    cases hb
    rw [hdrop, hdst] at hrest
    generalize hkn : kns[i] = kn at hd gi gL hc1 hsp hdn hrest
    generalize hsv : (stOf kns ls lost)[i] = si at hrest
    have hsget : (stOf kns ls lost).getD i 0 = si := by rw [getD_at hsi, hsv]
    have hstix : ∀ {x0 x1 x2 x3 x5 x6 x7 x8 x9 x10 x12 x13 x14 x15 x16 x17 : Option V} {w' : Wd}, Exf w5.f w'.f → Ev J0 (tOp (rIxL K) (tVar 4) (tVar 11)) [x0, x1, x2, x3, some (.ref l), x5, x6, x7, x8, x9, x10, some (.int i), x12, x13, x14, x15, x16, x17] w' (RI si) := fun e => ev_ixL (n := i) (hstv e) (ev_is rfl) (by rw [List.getElem?_map, List.getElem?_eq_getElem hsi, hsv]; rfl)
    show tSeq _ _ _ [some v, some u, some (.int lost), some vp, some (.ref l), some (.int ((g + 1 : Nat) : Int)), some (.int n), some (.str (ltr kn.1)), some (.str (sgnS kn.2)), some d, some (.int ((ls.sum + 1 : Nat) : Int)), some (.int i), some vn, some (.ref lc), x14, x15, none, none] w10.h
    have hsz : (ltr kn.1).cps.size = kn.1.length := by show kn.1.toArray.size = _; simp
    have hsrc := src_str (J := J0) (te := tVar 7) (σ := [some v, some u, some (.int lost), some vp, some (.ref l), some (.int ((g + 1 : Nat) : Int)), some (.int n), some (.str (ltr kn.1)), some (.str (sgnS kn.2)), some d, some (.int ((ls.sum + 1 : Nat) : Int)), some (.int i), some vn, some (.ref lc), x14, x15, none, none]) (w := w10) (z := ltr kn.1) (ev_is rfl)
    rw [hsz] at hsrc
    have hcomp := ev_lc1 (te := tTup (tCons (tVar 17) (tCons (tOp (rIxL K) (tVar 4) (tVar 11)) tNil))) (i := 17) (fun _ => true) (fun j => nmR K (kn.1.getD j 0, si)) hsrc (by omega) (fun j w11 hj e11 y ⟨c, hc, hy⟩ => ⟨et_yes, fun _ => by
      have hcc : kn.1.getD j 0 = c := by
        have : (ltr kn.1).cps[j]? = kn.1[j]? := by show kn.1.toArray[j]? = _; simp
        rw [this] at hc
        rw [List.getD_eq_getElem?_getD, hc]
        rfl
      rw [hcc]
      exact ev_tup (ea_cons (ev_var (v := y) rfl hy) (ea_cons (hstix fun p o h => e11.ef p o (ef10 p o h)) ea_nil)) (by simp)⟩) fun _ _ => id
    rw [keptR_all] at hcomp
    have hvn10 : (LsX (((dn kns i).map fun q => (q.1, (stOf kns ls lost).getD q.2 0)).map (nmR K))).r w10.f vn := Rp.mono _ e10.ef hvn
    have hcat := en_cat (J := J0) (fun _ _ => id) (evh_x (ev_var (i := 12) (v := vn) rfl hvn10)) (evh_n (fun _ _ => id) hcomp) (by simp only [List.length_map, List.length_range]; omega)
    refine sq_asg (J := J0) (en_lsX hcat) fun vn2 w11 e11 hvn2 => ?_
    have hnames : (LsX (((dn kns (i + 1)).map fun q => (q.1, (stOf kns ls lost).getD q.2 0)).map (nmR K))).r w11.f vn2 := by
      have e : ((dn kns (i + 1)).map fun q => (q.1, (stOf kns ls lost).getD q.2 0)).map (nmR K) = ((dn kns i).map fun q => (q.1, (stOf kns ls lost).getD q.2 0)).map (nmR K) ++ (List.range kn.1.length).map fun j => nmR K (kn.1.getD j 0, si) := by
        rw [hdn, List.map_append, List.map_append]
        congr 1
        refine List.ext_getElem (by simp) fun j h1 h2 => ?_
        have hj : j < kn.1.length := by simpa using h1
        simp only [List.getElem_map, List.getElem_range, hsget, getD_at hj]
      rw [e]
      exact hvn2
    have l11 := l10.trans e11
    have own11 := (own9.le0 e10).le0 e11
    have ef911 : Exf w9.f w11.f := fun p o h => e11.ef p o (e10.ef p o h)
    have all11 := all9.mono ef911
    have hallen : xs.length = fs.length := by have := all9.len; simpa using this
    show tIfS _ _ _ _ [some v, some u, some (.int lost), some vp, some (.ref l), some (.int ((g + 1 : Nat) : Int)), some (.int n), some (.str (ltr kn.1)), some (.str (sgnS kn.2)), some d, some (.int ((ls.sum + 1 : Nat) : Int)), some (.int i), some vn2, some (.ref lc), x14, x15, none, none] w11.h
    refine st_if (J := J0) (et_test (ev_eq (ev_is rfl) ev_cv rfl (f2 kn.2))) (fun hto w12 e12 => ?_) (fun hto w12 e12 => ?_)
    · have hto := hto.symm
      obtain ⟨kk, hk⟩ := toK hto
      have hkk := gi.to_ kk hk
      have hnl : n < ls.length := by rw [hn]; exact hsp hto
      have hdl : ls.drop n = ls[n] :: ls.drop (n + 1) := List.drop_eq_getElem_cons hnl
      have hln := h1 _ (List.getElem_mem hnl)
      have hre : (kn :: kns.drop (i + 1)) = (kn.1, .to kk) :: kns.drop (i + 1) := by rw [← hk]
      rw [hdl, hre] at hrest
      have hrest : fs ++ (rowC si ls[n] ((stOf kns ls lost).getD kk 0) ++ cellsGo (stOf kns ls lost) (kns.drop (i + 1)) ((stOf kns ls lost).drop (i + 1)) (ls.drop (n + 1))) = cellsGo (stOf kns ls lost) kns (stOf kns ls lost) ls := hrest
      generalize hlen : ls[n] = len at hrest hln
      have hkst : kk < (stOf kns ls lost).length := by omega
      have hd' : d = .int kk := by rw [hk] at hd; exact hd
      subst hd'
      have hfs64 := hfullc _ _ hrest
      have l12 := l11.trans e12
      have ef12 : Exf w5.f w12.f := fun p o h => e12.ef p o (e11.ef p o (ef10 p o h))
      have hlnx : ∀ {x0 x2 x3 x4 x5 x7 x8 x9 x10 x11 x12 x13 x14 x15 x16 x17 : Option V} {w' : Wd}, Exf w5.f w'.f → Ev J0 (tOp (rIxL K) (tVar 1) (tVar 6)) [x0, some u, x2, x3, x4, x5, some (.int n), x7, x8, x9, x10, x11, x12, x13, x14, x15, x16, x17] w' (RI len) := fun e => ev_ixL (n := n) (hvu fun p o h => e p o (ef5 p o h)) (ev_is rfl) (by simp [hnl, hlen])
      show tSeq _ _ _ [some v, some u, some (.int lost), some vp, some (.ref l), some (.int ((g + 1 : Nat) : Int)), some (.int n), some (.str (ltr kn.1)), some (.str (sgnS kn.2)), some (.int kk), some (.int ((ls.sum + 1 : Nat) : Int)), some (.int i), some vn2, some (.ref lc), x14, x15, none, none] w12.h
      have hrng2 := src_rng1 (J := J0) (σ := [some v, some u, some (.int lost), some vp, some (.ref l), some (.int ((g + 1 : Nat) : Int)), some (.int n), some (.str (ltr kn.1)), some (.str (sgnS kn.2)), some (.int kk), some (.int ((ls.sum + 1 : Nat) : Int)), some (.int i), some vn2, some (.ref lc), x14, x15, none, none]) (w := w12) (n := (len : Int)) (hlnx ef12) (by omega) (by omega)
      have hlN : ((len : Int)).toNat = len := by omega
      rw [hlN] at hrng2
      refine sq_for (J := J0) hrng2 (fun j σ1 w13 => Le J0 w w13 ∧ Exf w11.f w13.f ∧ Exf w5.f w13.f ∧ ∃ x14 x15 xs, σ1 = [some v, some u, some (.int lost), some vp, some (.ref l), some (.int ((g + 1 : Nat) : Int)), some (.int n), some (.str (ltr kn.1)), some (.str (sgnS kn.2)), some (.int kk), some (.int ((ls.sum + 1 : Nat) : Int)), some (.int i), some vn2, some (.ref lc), x14, x15, none, none] ∧ Own w13 lc (.lst xs) ∧ AllR w13.f ((fs ++ (rowC si len ((stOf kns ls lost).getD kk 0)).take j).map (clR K)) xs)
        (fun w13 e13 => ⟨l12.trans e13, fun p o h => e13.ef p o (e12.ef p o h), fun p o h => e13.ef p o (ef12 p o h), x14, x15, xs, rfl, (own11.le0 e12).le0 e13, by simpa using (all11.mono e12.ef).mono e13.ef⟩) ?_ ?_
      · rintro j σ1 w13 hj ⟨l13, ef913, ef13, z14, z15, xs2, rfl, own13, all13⟩ z w14 e14 hz Kw bw hKw
        cases hz
        have l14 := l13.trans e14
        have ef14 : Exf w5.f w14.f := fun p o h => e14.ef p o (ef13 p o h)
        have hx2l := all13.len
        rw [List.length_map, List.length_append, List.length_take, row_len hln.1] at hx2l
        show tSeq _ _ _ [some v, some u, some (.int lost), some vp, some (.ref l), some (.int ((g + 1 : Nat) : Int)), some (.int n), some (.str (ltr kn.1)), some (.str (sgnS kn.2)), some (.int kk), some (.int ((ls.sum + 1 : Nat) : Int)), some (.int i), some vn2, some (.ref lc), some (.int j), z15, none, none] w14.h
        refine sq_asg (J := J0) (R := RI (si + j)) (ev_add (hstix ef14) (ev_is rfl)) fun u15 w15 e15 h15 => ?_
        cases h15
        have ef15 : Exf w5.f w15.f := fun p o h => e15.ef p o (ef14 p o h)
        show tDrop _ _ [some v, some u, some (.int lost), some vp, some (.ref l), some (.int ((g + 1 : Nat) : Int)), some (.int n), some (.str (ltr kn.1)), some (.str (sgnS kn.2)), some (.int kk), some (.int ((ls.sum + 1 : Nat) : Int)), some (.int i), some vn2, some (.ref lc), some (.int j), some (.int (si + j)), none, none] w15.h
        refine st_app (J := J0) (R := clR K (si + (j : Int), if (j : Int) + 1 < len then si + (j : Int) + 1 else (stOf kns ls lost).getD kk 0)) ((own13.le0 e14).le0 e15) id rfl (ev_tup (ea_cons (ev_is rfl) (ea_cons (ev_if (P := (· = decide ((j : Int) + 1 < len))) (et_test (ev_lt (ev_add (ev_is rfl) ev_cv) (hlnx ef15) rfl)) (fun hb => ?_) (fun hb => ?_)) ea_nil)) (by simp)) (by omega) fun u16 w16 w17 e16 h16 m17 => ?_
        · rw [if_pos (of_decide_eq_true hb.symm)]
          exact ev_add (ev_is rfl) ev_cv
        · rw [if_neg (of_decide_eq_false hb.symm)]
          exact ev_ixL (n := kk) (hstv ef15) (ev_is rfl) (by rw [getD_at hkst]; simp [hkst])
        have own16 := ((own13.le0 e14).le0 e15).le0 e16
        have efx : Exf w13.f w17.f := fun p o h => m17.ef p o (e16.ef p o (e15.ef p o (e14.ef p o h)))
        refine hKw _ w17 efx ⟨((l14.trans e15).trans e16).mt m17 hlc0 own16.f, fun p o h => efx p o (ef913 p o h), fun p o h => efx p o (ef13 p o h), _, _, _, rfl, m17.own own16.f, ?_⟩
        have hjr : j < (rowC si len ((stOf kns ls lost).getD kk 0)).length := by rw [row_len hln.1]; exact hj
        rw [List.take_succ_eq_append_getElem hjr, row_get hln.1 hj, ← List.append_assoc, List.map_append]
        exact (all13.mono efx).snoc (Rp.mono _ m17.ef h16)
      · rintro σ1 w13 ⟨l13, ef913, ef13, z14, z15, xs2, rfl, own13, all13⟩
        rw [List.take_of_length_le (by rw [row_len hln.1]; exact Nat.le_refl _)] at all13
        refine st_asg (J := J0) (R := RI ((n + 1 : Nat) : Int)) ((ev_add (a := n) (b := 1) (ev_is rfl) ev_cv).of (by congr 2)) fun u14 w14 e14 h14 => ?_
        cases h14
        have efx : Exf w9.f w14.f := fun p o h => e14.ef p o (ef913 p o (ef911 p o h))
        refine hK _ w14 efx ⟨l13.trans e14, fun p o h => efx p o (ef9 p o h), _, n + 1, vn2, _, _, _, _, _, _, _, rfl, ?_, own13.le0 e14, all13.mono e14.ef, ?_, ?_⟩
        · exact Rp.mono _ (fun p o h => e14.ef p o (ef913 p o h)) hnames
        · rw [← hrest, List.append_assoc]
        · rw [hc1, hto, ← hn]
          rfl
    · have hno := hto.symm
      rw [cellsGo_no hno] at hrest
      have efx : Exf w9.f w12.f := fun p o h => e12.ef p o (ef911 p o h)
      refine hK _ w12 efx ⟨l11.trans e12, fun p o h => efx p o (ef9 p o h), fs, n, vn2, _, _, _, _, _, _, _, rfl, Rp.mono _ e12.ef hnames, own11.le0 e12, all11.mono e12.ef, hrest, ?_⟩
      rw [hc1, hno, ← hn]
      rfl
  rintro σ1 w9 ⟨l9, ef9, fs, n, vn, y7, y8, y9, y11, x14, x15, xs, rfl, hvn, own9, all9, hrest, hn⟩
  have hfs : fs = cellsGo (stOf kns ls lost) kns (stOf kns ls lost) ls := by
    rw [← hrest, List.drop_length]
    show fs = fs ++ []
    simp
  subst hfs
  have l10 : Le J0 w (w9.pub lc _ own9.h) := l9.pub hlc0 own9.h
  have hc10 : (LstR K ((cellsGo (stOf kns ls lost) kns (stOf kns ls lost) ls).map (clR K))).r (w9.pub lc _ own9.h).f (.ref lc) := pub_lst own9 all9
  have ef10 : Exf w9.f (w9.pub lc _ own9.h).f := pub_ef own9.h own9.f
  have hvn10 := Rp.mono _ ef10 hvn
  show tRet (tTup (tCons (tCB (rTupF K) (tCons (tCB (rSortedN K) (tCons (tVar 12) tNil)) tNil)) (tCons (tCB (rTupF K) (tCons (tOp rCat (tCB (rSortedC K) (tCons (tVar 13) tNil)) (tLc (iRng1 (tCons (tVar 2) tNil)) (gName 14) tYes (tTup (tCons (tOp rAddI (tVar 10) (tVar 14)) (tCons (tC (.int 0)) tNil))) [14])) tNil)) tNil))) { nx := fun _ H' => Q .non H', rt := Q } [some v, some u, some (.int lost), some vp, some (.ref l), some (.int ((g + 1 : Nat) : Int)), some (.int n), y7, y8, y9, some (.int ((ls.sum + 1 : Nat) : Int)), y11, some vn, some (.ref lc), x14, x15, none, none] (w9.pub lc _ own9.h).h
  generalize w9.pub lc _ own9.h = w10 at l10 hc10 ef10 hvn10
  have hperm : (nnOf prs (stOf kns ls lost)).Perm ((dn kns kns.length).map fun q => (q.1, (stOf kns ls lost).getD q.2 0)) := (F.perm.map _).symm
  have hasn : (nnOf prs (stOf kns ls lost)).Pairwise fun a b => a.1 < b.1 := by
    unfold nnOf
    rw [List.pairwise_map]
    exact F.asc
  have hrng := src_rng1 (J := J0) (te := tVar 2) (σ := [some v, some u, some (.int lost), some vp, some (.ref l), some (.int ((g + 1 : Nat) : Int)), some (.int n), y7, y8, y9, some (.int ((ls.sum + 1 : Nat) : Int)), y11, some vn, some (.ref lc), x14, x15, none, none]) (w := w10) (n := (lost : Int)) (ev_is rfl) (by omega) (by omega)
  have hlo : ((lost : Int)).toNat = lost := by omega
  rw [hlo] at hrng
  have hcomp := ev_lc1 (te := tTup (tCons (tOp rAddI (tVar 10) (tVar 14)) (tCons (tC (.int 0)) tNil))) (i := 14) (fun _ => true) (fun (j : Nat) => clR K (((ls.sum + 1 : Nat) : Int) + (j : Int), 0)) hrng (by omega) (fun j w6 hj e6 y hy => ⟨et_yes, fun _ => by
      cases hy
      exact ev_tup (ea_cons (ev_add (ev_is rfl) (ev_is rfl)) (ea_cons ev_cv ea_nil)) (by simp)⟩) fun _ _ => id
  rw [keptR_all] at hcomp
  have hsc := ev_sortedCX (J := J0) (K := K) (σ := [some v, some u, some (.int lost), some vp, some (.ref l), some (.int ((g + 1 : Nat) : Int)), some (.int n), y7, y8, y9, some (.int ((ls.sum + 1 : Nat) : Int)), y11, some vn, some (.ref lc), x14, x15, none, none]) (w := w10) (ta := tVar 13) (ev_var (i := 13) (v := .ref lc) rfl hc10) (by omega) hasc (.refl _)
  have hcat := en_cat (J := J0) (fun _ _ => id) (evh_x hsc) (evh_n (fun _ _ => id) hcomp) (by simp only [List.length_map, List.length_range]; omega)
  refine st_ret (J := J0) (ev_tupD (ds := [.tuple ((nnOf prs (stOf kns ls lost)).map nmD), .tuple ((ccOf kns ls lost).map clD)]) (ev_tup (ea_cons (R := Dat K (.tuple ((nnOf prs (stOf kns ls lost)).map nmD))) ((ev_tupF (nms_to (ev_sortedN (ev_var (i := 12) (v := vn) rfl (lsX_lst hvn10)) (by rw [List.length_map, F.perm.length_eq]; omega) hasn hperm))).imp fun _ _ _ => TupD.dat)
    (ea_cons (R := Dat K (.tuple ((ccOf kns ls lost).map clD))) ((ev_tupF (cls_to (cs := ccOf kns ls lost) ((en_lstR (K := K) hcat).of ?_))).imp fun _ _ _ => TupD.dat) ea_nil)) (by simp))) fun vr wr er hr => q vr wr (l10.trans er) hr
  unfold ccOf
  rw [List.map_append]
  congr 1
  unfold lostC
  rw [List.map_map, hcl]
  rfl
end
end Z
end

section -- P26
set_option Elab.async false
set_option linter.all false
set_option maxRecDepth 100000
set_option maxHeartbeats 4000000
set_option autoImplicit false
namespace Z
open PySem PySem.Spec L2 K07
open M7 (Names Cells Kn Kd)
/-! ### draws -/
abbrev Jj (j : Addr) : Addr → Prop := fun p => p = j
structure Jug (w : Wd) (j : Addr) : Prop where
  h : ∃ o, w.h j = some o ∧ JugO o
  f : w.f j = none
section
variable {j : Addr} {σ : St} {w w0 w1 : Wd} {ta tb tc t te : TE} {ts : TA} {K : PySem.W.Frag} {cS cP : Addr} {D : Ends} {sa rest : TS} {g g1 : TG} {i k m : Nat} {R Ra Rb Rc : Rp} {Rs Ss : List Rp}
theorem Jug.le (x : Jug w j) (e : Le (Jj j) w w1) : Jug w1 j where
  h := by
    obtain ⟨o, h1, h2⟩ := x.h
    rcases e.eh j o h1 with h3 | ⟨_, _, o', h3, h4⟩
    · exact ⟨o, h3, h2⟩
    · exact ⟨o', h3, h4⟩
  f := by
    cases h : w1.f j with
    | none => rfl
    | some u =>
      rcases e.nw j u h with h1 | h1
      · rw [x.f] at h1; cases h1
      · obtain ⟨o, h2, _⟩ := x.h
        rw [h1] at h2; cases h2
theorem jug_put {o o' : HO} (h : w.h j = some o) (ho : JugO o) (ho' : JugO o') (hf : w.f j = none) : Le (Jj j) w (w.put j o' hf) where
  ef := fun _ _ h => h
  eh := fun p u hp => by
    by_cases e : p = j
    · subst e
      rw [h] at hp
      cases hp
      exact .inr ⟨rfl, ho, o', upd_same, ho'⟩
    · exact .inl ((upd_ne e).trans hp)
  nw := fun _ _ h => .inl h
theorem ixJ {xs : List V} {n : Nat} {v : V} {H : Hp} {Q : VK} (hv : σ[i]? = some (some (.ref j))) (hH : H j = some (.lst xs)) (hx : xs[n]? = some v) (q : Q v H) : tOp (rIxL K) (tVar i) (tC (.int n)) σ H Q := ⟨.ref j, hv, j, xs, n, v, rfl, rfl, .inl (.inl hH), atI_nat hx, q⟩
theorem pj_take (hJ : Jug w j) {n : Int} (hn : 1 ≤ n) (hn2 : n < 1000) : Pu (Jj j) (p_law_take K cS cP) w [Is (.ref j), RI n] (Some Int (fun k => 0 ≤ k ∧ k < n) RI) := fun vs w' e a Q q => by
  obtain ⟨v, ws, rfl, h1, a⟩ := a.cons_inv
  obtain ⟨u, ws, rfl, h2, a⟩ := a.cons_inv
  cases a.nil_inv
  cases h1
  cases h2
  have hJ' := hJ.le e
  obtain ⟨o, ho, hjo⟩ := hJ'.h
  have hf := hJ'.f
  obtain ⟨a, b, c, rfl, ha, hb, hb2, hc⟩ := hjo
  refine ⟨rfl, ?_⟩
  show tOp (rIxL K) (tVar 0) (tC (.int (0 : Nat))) [some (.ref j), some (.int n), none] w'.h _
  refine ixJ rfl ho (n := 0) rfl ⟨a, 0, rfl, rfl, _, rfl, ?_⟩
  by_cases hpos : 0 < a
  · rw [decide_eq_true hpos]
    show tOp (rIxL K) (tVar 0) (tC (.int (0 : Nat))) [some (.ref j), some (.int n), none] w'.h _
    refine ixJ rfl ho (n := 0) rfl ⟨.int n, rfl, a, n, rfl, ⟨by omega, ?_⟩, fun p hp => ?_⟩
    · unfold Builtin.divisionGoesByPylong
      have h1 : n.natAbs.log2 ≤ n.natAbs := Nat.log2_le_self _
      have h2 : n.natAbs.log2 / 30 + 1 ≤ 300 := by omega
      simp only [Bool.and_eq_false_iff]
      left
      split
      · rfl
      · simp only [decide_eq_false_iff_not]; omega
    · have hpj : j ≠ p := fun z => by subst z; rw [ho] at hp; cases hp
      have l1 : Le (Jj j) w' (w'.new p (.tup [.int (a / n), .int (a % n)])) := Le.new hp
      have hj1 : (w'.new p (.tup [.int (a / n), .int (a % n)])).h j = some (.lst [.int a, .int b, .int c]) := (upd_ne hpj).trans ho
      have hf1 : (w'.new p (.tup [.int (a / n), .int (a % n)])).f j = none := (upd_ne hpj).trans hf
      have jo1 : JugO (.lst [.int a, .int b, .int c]) := ⟨a, b, c, rfl, ha, hb, hb2, hc⟩
      have jo2 : JugO (.lst [.int (a / n), .int b, .int c]) := ⟨a / n, b, c, rfl, Int.ediv_nonneg ha (by omega), hb, hb2, hc⟩
      have l2 := jug_put hj1 jo1 jo2 hf1
      refine ⟨p, _, rfl, .inl (.inl upd_same), rfl, _, _, rfl, ⟨.ref j, rfl, j, [.int a, .int b, .int c], 0, 0, rfl, rfl, hj1, rfl, ?_⟩⟩
      refine ⟨_, _, rfl, rfl, ⟨.int (a % n), rfl, ?_⟩⟩
      exact q (.int (a % n)) ((w'.new p (.tup [.int (a / n), .int (a % n)])).put j (.lst [.int (a / n), .int b, .int c]) hf1) (l1.trans l2) ⟨a % n, ⟨Int.emod_nonneg _ (by omega), Int.emod_lt_of_pos _ (by omega)⟩, rfl⟩
  · rw [decide_eq_false hpos]
    show tOp (rIxL K) (tVar 0) (tC (.int (2 : Nat))) [some (.ref j), some (.int n), none] w'.h _
    refine ixJ rfl ho (n := 2) rfl ⟨c, 1, rfl, rfl, ⟨.ref j, rfl, j, [.int a, .int b, .int c], 2, 2, rfl, rfl, ho, rfl, ?_⟩⟩
    have jo1 : JugO (.lst [.int a, .int b, .int c]) := ⟨a, b, c, rfl, ha, hb, hb2, hc⟩
    have jo2 : JugO (.lst [.int a, .int b, .int (c + 1)]) := ⟨a, b, c + 1, rfl, ha, hb, hb2, by omega⟩
    have l1 := jug_put ho jo1 jo2 hf
    have hj1 : (w'.put j (.lst [.int a, .int b, .int (c + 1)]) hf).h j = some (.lst [.int a, .int b, .int (c + 1)]) := upd_same
    have hf1 : (w'.put j (.lst [.int a, .int b, .int (c + 1)]) hf).f j = none := hf
    show tOp (rIxL K) (tVar 0) (tC (.int (1 : Nat))) [some (.ref j), some (.int n), none] (w'.put j (.lst [.int a, .int b, .int (c + 1)]) hf).h _
    generalize w'.put j (.lst [.int a, .int b, .int (c + 1)]) hf = w2 at l1 hj1 hf1
    refine ixJ rfl hj1 (n := 1) rfl ?_
    show tOp (rIxL K) (tVar 0) (tC (.int (2 : Nat))) [some (.ref j), some (.int n), none] w2.h _
    refine ixJ rfl hj1 (n := 2) rfl ⟨2, c + 1, rfl, rfl, .inl ⟨by decide, by decide⟩, 40014, 2 * (c + 1), rfl, rfl, b, _, rfl, rfl, .inl ⟨by omega, by omega⟩, _, 12211, rfl, rfl, ?_⟩
    show tOp (rIxL K) (tVar 0) (tC (.int (2 : Nat))) [some (.ref j), some (.int n), none] w2.h _
    refine ixJ rfl hj1 (n := 2) rfl ⟨_, c + 1, rfl, rfl, .inl ⟨_, rfl, _, 2147483563, rfl, rfl, (by show (0 : Int) < 2147483563; decide), ⟨.ref j, rfl, j, [.int a, .int b, .int (c + 1)], 1, 1, rfl, rfl, hj1, rfl, ?_⟩⟩⟩
    show tOp (rIxL K) (tVar 0) (tC (.int (1 : Nat))) [some (.ref j), some (.int n), none] (upd w2.h j (.lst [.int a, .int ((b * (40014 + 2 * (c + 1)) + 12211 + (c + 1)) % 2147483563), .int (c + 1)])) _
    generalize hd : (b * (40014 + 2 * (c + 1)) + 12211 + (c + 1)) % 2147483563 = d
    have hd0 : 0 ≤ d ∧ d < 2147483563 := by rw [← hd]; exact ⟨Int.emod_nonneg _ (by decide), Int.emod_lt_of_pos _ (by decide)⟩
    have jo3 : JugO (.lst [.int a, .int d, .int (c + 1)]) := ⟨a, d, c + 1, rfl, ha, hd0.1, by omega, by omega⟩
    have l2 := jug_put hj1 jo2 jo3 hf1
    have hj2 : (w2.put j (.lst [.int a, .int d, .int (c + 1)]) hf1).h j = some (.lst [.int a, .int d, .int (c + 1)]) := upd_same
    show tOp (rIxL K) (tVar 0) (tC (.int (1 : Nat))) [some (.ref j), some (.int n), none] (w2.put j (.lst [.int a, .int d, .int (c + 1)]) hf1).h _
    generalize w2.put j (.lst [.int a, .int d, .int (c + 1)]) hf1 = w3 at l2 hj2
    refine ixJ rfl hj2 (n := 1) rfl ⟨d, 131, rfl, rfl, ⟨by decide, by decide⟩, .inl ⟨_, rfl, ⟨.int n, rfl, _, n, rfl, rfl, by omega, ?_⟩⟩⟩
    exact q (.int (d / 131 % n)) w3 (l1.trans l2) ⟨_, ⟨Int.emod_nonneg _ (by omega), Int.emod_lt_of_pos _ (by omega)⟩, rfl⟩
theorem pj_one_of (hJ : Jug w j) {Rs : List Rp} (h0 : Rs ≠ []) (hl : Rs.length < 1000) : Pu (Jj j) (p_law_one_of K cS cP) w [Is (.ref j), LstR K Rs] (Some Rp (fun R => R ∈ Rs) id) := fun vs w' e a Q q => by
  obtain ⟨v, ws, rfl, h1, a⟩ := a.cons_inv
  obtain ⟨u, ws, rfl, h2, a⟩ := a.cons_inv
  cases a.nil_inv
  cases h1
  have hlen : 1 ≤ Rs.length := List.length_pos_iff.mpr h0
  refine ⟨rfl, ?_⟩
  refine st_ret (J := Jj j) (σ := start N_law_one_of [.ref j, u]) (w := w') (D := { nx := fun _ H' => Q .non H', rt := Q }) (R := Some Rp (fun R => R ∈ Rs) id) ?_ q
  have hu : Ev (Jj j) (tVar 1) (start N_law_one_of [.ref j, u]) w' (LstR K Rs) := ev_var (v := u) rfl h2
  refine ev_op hu (ev_cl (ea_cons (ev_is rfl) (ea_cons (ev_lenL hu) ea_nil)) (pj_take (hJ.le e) (by omega) (by omega))) fun x y w2 e2 hx ⟨k, ⟨hk0, hk1⟩, hy⟩ Q2 q2 => ?_
  obtain ⟨a, xs, h1, h2, h3⟩ := hx
  obtain ⟨k', rfl⟩ := Int.eq_ofNat_of_zero_le hk0
  have hkl : k' < Rs.length := by omega
  obtain ⟨z, hz, hr⟩ := h3.get (List.getElem?_eq_getElem hkl)
  exact ⟨a, xs, k', z, h1, hy, sqL_h w2 h2, atI_nat hz, q2 _ w2 .rfl ⟨_, List.getElem_mem hkl, hr⟩⟩
end
end Z
end

section -- P27
set_option Elab.async false
set_option linter.all false
set_option maxRecDepth 100000
set_option maxHeartbeats 4000000
set_option autoImplicit false
namespace Z
open PySem PySem.Spec L2 K07
open M7 (Names Cells Kn Kd)
section
variable {j : Addr} {J : Addr → Prop} {σ : St} {w w0 w1 : Wd} {ta tb tc t te : TE} {ts : TA} {K : PySem.W.Frag} {cS cP : Addr} {D : Ends} {sa rest : TS} {g g1 : TG} {i k m : Nat} {R Ra Rb Rc : Rp} {Rs Ss : List Rp}
theorem len_le_sub {α : Type} [DecidableEq α] : ∀ {l m : List α}, l.Nodup → (∀ x ∈ l, x ∈ m) → l.length ≤ m.length := by
  intro l
  induction l with
  | nil => intro m _ _; exact Nat.zero_le _
  | cons a l ih =>
    intro m hn hs
    have ha : a ∈ m := hs a (List.mem_cons_self ..)
    have h2 := ih (m := m.erase a) (List.nodup_cons.mp hn).2 fun x hx => by
      have hne : x ≠ a := fun e => (List.nodup_cons.mp hn).1 (e ▸ hx)
      exact (List.mem_erase_of_ne hne).mpr (hs x (List.mem_cons_of_mem _ hx))
    rw [List.length_erase_of_mem ha] at h2
    have : 0 < m.length := List.length_pos_of_mem ha
    simp only [List.length_cons]
    omega
theorem inV_strs (c : Nat) (s : List Nat) : inV (.str (chr c)) (s.map fun c => V.str (chr c)) = decide (c ∈ s) := by
  unfold inV
  induction s with
  | nil => rfl
  | cons a s ih =>
    rw [List.map_cons, List.any_cons, ih]
    show ((chr a == chr c) || decide (c ∈ s)) = decide (c ∈ a :: s)
    by_cases h : a = c
    · subst h; simp
    · have h2 : ¬ c = a := fun e => h e.symm
      have h3 : (chr a == chr c) = false := by rw [beq_eq_false_iff_ne]; exact fun e => h (chr_inj e)
      simp [h3, h2]
theorem jug_ne (hJ : Jug w j) : ∀ D, w.h D = none → ¬ Jj j D := fun D hD e => by
  obtain ⟨o, h, _⟩ := hJ.h
  have e : D = j := e
  subst e
  rw [hD] at h
  cases h
/-- the letters of a text that are not among some -/
theorem ev_left {z : Str} {l : Addr} {fd : List Nat} {k : Nat} (hz : z.cps.size ≤ 1000) (hl : Own w l (.lst (fd.map fun c => V.str (chr c)))) (hj : ¬ J l) (hnj : ∀ D, w.h D = none → ¬ J D) (h : Ev J te σ w (RS z))
    (hv : ∀ x, ((wipe σ [i]).set i (some x))[k]? = some (some (.ref l))) (hi : ∀ x, ((wipe σ [i]).set i (some x))[i]? = some (some x)) :
    Ev J (tLc (iStr te) (gName i) (tTest (tOp (rIn K true) (tVar i) (tVar k))) (tVar i) [i]) σ w (LstR K (((z.cps.toList.filter fun c => !decide (c ∈ fd)).map chr).map RS)) := by
  have hs := src_str h
  have hsz : z.cps.size = z.cps.toList.length := Array.length_toList.symm
  rw [hsz] at hs
  have key : keptR z.cps.toList.length (fun a => !decide (z.cps.toList.getD a 0 ∈ fd)) (fun a => RS (chr (z.cps.toList.getD a 0))) = ((z.cps.toList.filter fun c => !decide (c ∈ fd)).map chr).map RS := by
    rw [keptR_map (f := fun c => !decide (c ∈ fd)) (E := fun c => RS (chr c)) (fun a ha => by rw [getD_at ha]) (fun a ha => by rw [getD_at ha])]
    rw [List.map_map]
    rfl
  rw [← key]
  refine en_lstR (ev_lc1 _ _ hs (by omega) (fun a w1 ha e1 x ⟨c, hc, hx⟩ => ?_) hnj)
  have hcc : z.cps.toList.getD a 0 = c := by
    rw [List.getD_eq_getElem?_getD, Array.getElem?_toList, hc]
    rfl
  rw [hcc]
  cases hx
  refine ⟨et_test fun w' e Q q => ⟨.str (chr c), hi _, .ref l, hv _, l, _, rfl, .inl (.inl (.inl ((hl.le e1 hj).le e hj).h)), rfl, ?_, q _ w' .rfl (by
    show V.bl (!inV (.str (chr c)) _) = V.bl _
    rw [inV_strs])⟩, fun _ => ev_is (hi _)⟩
  rw [List.all_map, List.all_eq_true]
  intro x _
  rfl
theorem pu_some {sp : Sp} {α : Type} {P : α → Prop} {A : Rp} {B : α → Rp} (h : ∀ a, P a → Pu J sp w [A, B a] R) : Pu J sp w [A, Some α P B] R := fun vs w' e a Q q => by
  obtain ⟨v, ws, rfl, h1, a⟩ := a.cons_inv
  obtain ⟨u, ws, rfl, ⟨x, hp, h2⟩, a⟩ := a.cons_inv
  cases a.nil_inv
  exact h x hp [v, u] w' e ⟨h1, h2, trivial⟩ Q q
def Lets (n : Nat) (zs : List Nat) : Prop := zs.Pairwise (· < ·) ∧ zs.length = n ∧ ∀ c ∈ zs, 97 ≤ c ∧ c ≤ 122
def letR (K : PySem.W.Frag) (zs : List Nat) : Rp := LstR K ((zs.map chr).map RS)
theorem asc_of (fd : List Nat) (hn : fd.Nodup) : ∃ zs : List Nat, zs.Pairwise (· < ·) ∧ zs.Perm fd := by
  refine ⟨fd.mergeSort (fun a b => decide (a ≤ b)), ?_, List.mergeSort_perm _ _⟩
  have h1 := List.pairwise_mergeSort (le := fun a b : Nat => decide (a ≤ b)) (fun a b c h1 h2 => by simp at *; omega) (fun a b => by simp; omega) fd
  have h2 : (fd.mergeSort (fun a b => decide (a ≤ b))).Nodup := (List.mergeSort_perm _ _).nodup_iff.mpr hn
  refine (h1.and (List.nodup_iff_pairwise_ne.mp h2)).imp fun h => ?_
  have := h.1
  have := h.2
  simp at *
  omega
theorem pj_letters (hJ : Jug w j) {n : Nat} (hn : n ≤ 4) : Pu (Jj j) (p_law_letters K cS cP) w [Is (.ref j), RI n] (Some (List Nat) (Lets n) (letR K)) := fun vs w' e a Q q => by
  obtain ⟨v, ws, rfl, h1, a⟩ := a.cons_inv
  obtain ⟨u, ws, rfl, h2, a⟩ := a.cons_inv
  cases a.nil_inv
  cases h1
  cases h2
  have hJ' := hJ.le e
  refine ⟨rfl, ?_⟩
  show tSeq _ _ _ [some (.ref j), some (.int n), none, none, none, none, none] w'.h
  refine sq_asgN (J := Jj j) (en_lst ea_nil (by simp)) fun l o w1 e1 hl0 own1 ⟨xs, ho, hxs⟩ => ?_
  cases hxs.nil_inv
  subst ho
  have hlj : ¬ Jj j l := jug_ne hJ' l hl0
  have hJ1 := hJ'.le e1
  have hrng := src_rng1 (J := Jj j) (σ := [some (.ref j), some (.int n), some (.ref l), none, none, none, none]) (w := w1) (te := tVar 1) (n := (n : Int)) (ev_is rfl) (by omega) (by omega)
  have hnn : ((n : Int)).toNat = n := by omega
  rw [hnn] at hrng
  show tSeq _ _ _ [some (.ref j), some (.int n), some (.ref l), none, none, none, none] w1.h
  refine sq_for (J := Jj j) hrng (fun i σ1 w2 => Le (Jj j) w' w2 ∧ ∃ (fd : List Nat), ∃ x3 x4 x5, σ1 = [some (.ref j), some (.int n), some (.ref l), x3, x4, x5, none] ∧ Own w2 l (.lst (fd.map fun c => V.str (chr c))) ∧ fd.Nodup ∧ fd.length = i ∧ ∀ c ∈ fd, 97 ≤ c ∧ c ≤ 122)
    (fun w2 e2 => ⟨e1.trans e2, [], none, none, none, rfl, own1.le e2 hlj, .nil, rfl, by simp⟩) ?_ ?_
  · rintro i σ1 w2 hi ⟨l2, fd, x3, x4, x5, rfl, own2, hnd, hfl, hfc⟩ z w3 e3 hz Kk bk hK
    cases hz
    have l3 := l2.trans e3
    have hJ3 := hJ'.le l3
    have own3 := own2.le e3 hlj
    show tSeq _ _ _ [some (.ref j), some (.int n), some (.ref l), some (.int i), x4, x5, none] w3.h
    have hxyz : ("xyzuvw" : Str).cps.toList = [120, 121, 122, 117, 118, 119] := by decide +kernel
    have hLET : ("abcdefghijklmnopqrstuvwxyz" : Str).cps.toList = List.range' 97 26 := by decide +kernel
    refine sq_asg (J := Jj j) (ev_left (K := K) (by decide +kernel) own3 hlj (jug_ne hJ3) ev_cv (fun _ => rfl) (fun _ => rfl)) fun v4 w4 e4 h4 => ?_
    rw [hxyz] at h4
    have own4 := own3.le e4 hlj
    have hJ4 := hJ3.le e4
    show tSeq _ _ _ [some (.ref j), some (.int n), some (.ref l), some (.int i), some v4, x5, none] w4.h
    refine sq_asg (J := Jj j) (ev_left (K := K) (by decide +kernel) own4 hlj (jug_ne hJ4) ev_cv (fun _ => rfl) (fun _ => rfl)) fun v5 w5 e5 h5 => ?_
    rw [hLET] at h5
    have own5 := own4.le e5 hlj
    have hJ5 := hJ4.le e5
    have l5 := (l3.trans e4).trans e5
    have ne_of_few : ∀ cs : List Nat, cs.Nodup → 4 ≤ cs.length → (cs.filter fun c => !decide (c ∈ fd)) ≠ [] := fun cs hcn hcl he => by
      have h1 : ∀ c ∈ cs, c ∈ fd := fun c hc => by
        have := List.filter_eq_nil_iff.mp he c hc
        simpa using this
      have := len_le_sub hcn h1
      omega
    let P : List Nat → Prop := fun cs => cs ≠ [] ∧ cs.length < 1000 ∧ ∀ c ∈ cs, c ∉ fd ∧ 97 ≤ c ∧ c ≤ 122
    have hsome : Ev (Jj j) (tIf (tTest (tOp rEq (tCl (p_law_take K cS cP) (tCons (tVar 0) (tCons (tC (.int 2)) tNil))) (tC (.int 0)))) (tVar 4) (tVar 5)) [some (.ref j), some (.int n), some (.ref l), some (.int i), some v4, some v5, none] w5 (Some (List Nat) P (letR K)) := by
      refine ev_if (P := fun _ => True) (et_any (ev_op (ev_cl (ea_cons (ev_is (v := .ref j) rfl) (ea_cons ev_cv ea_nil)) (pj_take hJ5 (n := 2) (by decide) (by decide))) (ev_cv (v := .int 0)) fun x y w6 e6 ⟨k, _, hx⟩ hy Q2 q2 => ?_)) (fun _ => ?_) (fun _ => ?_)
      · cases hx
        cases hy
        exact ⟨rfl, q2 _ w6 .rfl ⟨_, trivial, rfl⟩⟩
      · refine ev_var (v := v4) rfl ⟨_, ⟨ne_of_few _ (by decide) (by decide), ?_, fun c hc => ?_⟩, Rp.mono _ e5.ef h4⟩
        · exact Nat.lt_of_le_of_lt (List.length_filter_le _ _) (by decide)
        · have := List.mem_filter.mp hc
          refine ⟨by simpa using this.2, ?_⟩
          have h6 := this.1
          simp at h6
          omega
      · refine ev_var (v := v5) rfl ⟨_, ⟨ne_of_few _ List.nodup_range' (by simp), ?_, fun c hc => ?_⟩, h5⟩
        · exact Nat.lt_of_le_of_lt (List.length_filter_le _ _) (by simp)
        · have := List.mem_filter.mp hc
          refine ⟨by simpa using this.2, ?_⟩
          have h6 := List.mem_range'_1.mp this.1
          omega
    show tDrop _ _ [some (.ref j), some (.int n), some (.ref l), some (.int i), some v4, some v5, none] w5.h
    refine st_app (J := Jj j) (R := Some Nat (fun c => c ∉ fd ∧ 97 ≤ c ∧ c ≤ 122) (fun c => RS (chr c))) own5 hlj rfl (ev_cl (ea_cons (ev_is (v := .ref j) rfl) (ea_cons hsome ea_nil)) (pu_some fun cs hcs => ?_)) (by rw [List.length_map]; omega) fun u6 w6 w7 e6 ⟨c, hc, h6⟩ m7 => ?_
    · intro vs w6 e6 a Q2 q2
      refine pj_one_of (K := K) (cS := cS) (cP := cP) hJ5 (Rs := (cs.map chr).map RS) (by simpa using hcs.1) (by simpa using hcs.2.1) vs w6 e6 a Q2 fun v7 w7 e7 ⟨S, hS, h7⟩ => ?_
      obtain ⟨s, hs, rfl⟩ := List.mem_map.mp hS
      obtain ⟨c, hc, rfl⟩ := List.mem_map.mp hs
      exact q2 v7 w7 e7 ⟨c, hcs.2.2 c hc, h7⟩
    · cases h6
      have own6 := own5.le e6 hlj
      refine hK _ w7 (fun p o h => m7.ef p o (e6.ef p o (e5.ef p o (e4.ef p o (e3.ef p o h))))) ⟨(l5.trans e6).mt m7 hl0 own6.f, fd ++ [c], _, _, _, rfl, ?_, ?_, by simp [hfl], fun d hd => ?_⟩
      · rw [List.map_append]
        exact m7.own own6.f
      · rw [List.nodup_append]
        exact ⟨hnd, by simp, fun a ha b hb q => hc.1 (by simp at hb; subst hb; subst q; exact ha)⟩
      · rcases List.mem_append.mp hd with hd | hd
        · exact hfc d hd
        · have : d = c := by simpa using hd
          subst this
          exact hc.2
  rintro σ1 w2 ⟨l2, fd, x3, x4, x5, rfl, own2, hnd, hfl, hfc⟩
  obtain ⟨zs, hz1, hz2⟩ := asc_of fd hnd
  have lp : Le (Jj j) w' (w2.pub l _ own2.h) := l2.pub hl0 own2.h
  have hfd : (LstR K ((fd.map chr).map RS)).r (w2.pub l _ own2.h).f (.ref l) := ⟨l, _, rfl, .inl (.inl (pub_at own2.h)), allR_strs.mpr (by rw [List.map_map]; rfl)⟩
  show tRet (tCB (rSortedS K) (tCons (tVar 2) tNil)) { nx := fun _ H' => Q .non H', rt := Q } [some (.ref j), some (.int n), some (.ref l), x3, x4, x5, none] (w2.pub l _ own2.h).h
  refine st_ret (J := Jj j) (ev_sortedL (ls := fd) (ev_var (v := .ref l) rfl hfd) (by omega) hz1 hz2) fun vr wr er hr => q vr wr (lp.trans er) ⟨zs, ⟨hz1, by rw [hz2.length_eq, hfl], fun c hc => hfc c (hz2.mem_iff.mp hc)⟩, hr⟩
end
end Z
end

section -- P28
set_option Elab.async false
set_option linter.all false
set_option maxRecDepth 100000
set_option maxHeartbeats 4000000
set_option autoImplicit false
namespace Z
open PySem PySem.Spec L2 K07
open M7 (Names Cells Kn Kd)
section
variable {j : Addr} {J : Addr → Prop} {σ : St} {w w0 w1 : Wd} {ta tb tc t te : TE} {ts : TA} {K : PySem.W.Frag} {cS cP : Addr} {D : Ends} {sa rest : TS} {g g1 : TG} {i k m : Nat} {R Ra Rb Rc : Rp} {Rs Ss : List Rp}
theorem evh_lst (hnj : ∀ D, w.h D = none → ¬ J D) (h : EvA J ts σ w Rs) (hl : Rs.length ≤ 1000) : EvH J (tLst ts) σ w Rs := evh_n hnj (en_lst h hl)
theorem ev_takeB (hJ : Jug w j) {n : Int} {c : Int} (hn : 1 ≤ n) (hn2 : n < 1000) (hv : σ[0]? = some (some (.ref j))) : Ev (Jj j) (tCl (p_law_take K cS cP) (tCons (tVar 0) (tCons (tC (.int n)) tNil))) σ w (Some Int (fun k => 0 ≤ k ∧ k < n) RI) :=
  ev_cl (ea_cons (ev_is hv) (ea_cons ev_cv ea_nil)) (pj_take hJ hn hn2)
theorem ev_oneI (hJ : Jug w j) {l : List Int} (h0 : l ≠ []) (hl : l.length < 1000) (hv : σ[0]? = some (some (.ref j))) (h : Ev (Jj j) t σ w (LstR K (l.map RI))) : Ev (Jj j) (tCl (p_law_one_of K cS cP) (tCons (tVar 0) (tCons t tNil))) σ w (Some Int (fun k => k ∈ l) RI) :=
  (ev_cl (ea_cons (ev_is hv) (ea_cons h ea_nil)) (pj_one_of hJ (Rs := l.map RI) (by simpa using h0) (by simpa using hl))).imp fun w' v _ ⟨S, hS, hr⟩ => by
    obtain ⟨k, hk, rfl⟩ := List.mem_map.mp hS
    exact ⟨k, hk, hr⟩
structure DrC (most : Nat) (cs : Cells) (goals : List Int) : Prop where
  len : cs.length ≤ most
  asc : cs.Pairwise fun a b => a.1 < b.1
  pos : ∀ q ∈ cs, 0 < q.1 ∧ q.1 ≤ 999 ∧ q.2 ∈ goals
  goal : ∀ x ∈ goals, 0 ≤ x ∧ x ≤ 999
  ne : goals ≠ []
  few : goals.length < 1000
theorem pj_drawn_cells (hJ : Jug w j) {most : Nat} (hm : most ≤ 12) : Pu (Jj j) (p_law_drawn_cells K cS cP) w [Is (.ref j), RI most] (Some (Cells × List Int) (fun q => DrC most q.1 q.2) fun q => TupR K [LstR K (q.1.map (clR K)), LstR K (q.2.map RI)]) := fun vs w' e a Q q => by
  obtain ⟨v, ws, rfl, h1, a⟩ := a.cons_inv
  obtain ⟨u, ws, rfl, h2, a⟩ := a.cons_inv
  cases a.nil_inv
  cases h1
  cases h2
  have hJ' := hJ.le e
  refine ⟨rfl, ?_⟩
  show tSeq _ _ _ [some (.ref j), some (.int most), none, none, none, none, none, none, none, none, none] w'.h
  refine st_par3 ?_
  refine ev_cl (J := Jj j) (ea_cons (ev_is (i := 0) (v := .ref j) rfl) (ea_cons (ev_add (a := most) (b := 1) (ev_is (i := 1) rfl) ev_cv) ea_nil)) (pj_take (K := K) (cS := cS) (cP := cP) hJ' (n := (most : Int) + 1) (by omega) (by omega)) w' .rfl _ fun vm w1 e1 ⟨many, ⟨hm0, hm1⟩, hvm⟩ => ?_
  cases hvm
  obtain ⟨many, rfl⟩ := Int.eq_ofNat_of_zero_le hm0
  have hJ1 := hJ'.le e1
  refine ev_oneI (K := K) (cS := cS) (cP := cP) hJ1 (l := [0, 0, 0, 900, 41]) (by simp) (by simp) rfl (ev_lst (K := K) (ea_cons ev_cv (ea_cons ev_cv (ea_cons ev_cv (ea_cons ev_cv (ea_cons ev_cv ea_nil))))) (by simp)) w1 .rfl _ fun vl w2 e2 ⟨last, hlast, hvl⟩ => ?_
  cases hvl
  have hl0 : 0 ≤ last ∧ last ≤ 900 := by simp at hlast; omega
  refine en_lst (J := Jj j) (w := w2) ea_nil (by simp) w2 .rfl _ fun l o w3 e3 hll own3 ⟨xs, ho, hxs⟩ => ?_
  cases hxs.nil_inv
  subst ho
  have hll0 : w'.h l = none := (e1.trans e2).fresh hll
  have hlj : ¬ Jj j l := jug_ne hJ' l hll0
  have l3 := (e1.trans e2).trans e3
  show tSeq _ _ _ [some (.ref j), some (.int most), some (.int many), some (.int last), some (.ref l), none, none, none, none, none, none] w3.h
  have hrng := src_rng1 (J := Jj j) (σ := [some (.ref j), some (.int most), some (.int many), some (.int last), some (.ref l), none, none, none, none, none, none]) (w := w3) (te := tVar 2) (n := (many : Int)) (ev_is rfl) (by omega) (by omega)
  have hnn : ((many : Int)).toNat = many := by omega
  rw [hnn] at hrng
  refine sq_for (J := Jj j) hrng (fun i σ1 w4 => Le (Jj j) w' w4 ∧ ∃ (la : Int) (ps : List Int), ∃ x5, σ1 = [some (.ref j), some (.int most), some (.int many), some (.int la), some (.ref l), x5, none, none, none, none, none] ∧ Own w4 l (.lst (ps.map V.int)) ∧ ps.length = i ∧ ps.Pairwise (· < ·) ∧ (∀ p ∈ ps, 0 < p ∧ p ≤ la) ∧ 0 ≤ la ∧ la ≤ 900 + 2 * i)
    (fun w4 e4 => ⟨l3.trans e4, last, [], none, rfl, own3.le e4 hlj, rfl, .nil, by simp, hl0.1, by omega⟩) ?_ ?_
  · rintro i σ1 w4 hi ⟨l4, la, ps, x5, rfl, own4, hpl, hasc, hpos, hla0, hla⟩ z w5 e5 hz Kk bk hK
    cases hz
    have l5 := l4.trans e5
    have hJ5 := hJ'.le l5
    have own5 := own4.le e5 hlj
    show tSeq _ _ _ [some (.ref j), some (.int most), some (.int many), some (.int la), some (.ref l), some (.int i), none, none, none, none, none] w5.h
    refine sq_asg (J := Jj j) (R := Some Int (fun k => la + 1 ≤ k ∧ k ≤ la + 2) RI) (ev_op (ev_add (a := la) (b := 1) (ev_is rfl) ev_cv) (Rb := Some Int (fun k => 0 ≤ k ∧ k ≤ 1) RI) (fun w6 e6 Q2 q2 => ?_) fun x y w6 e6 hx ⟨k, hk, hy⟩ Q2 q2 => ?_) fun v6 w6 e6 ⟨la2, hla2, h6⟩ => ?_
    · refine ev_takeB (K := K) (cS := cS) (cP := cP) (c := 0) (hJ5.le e6) (n := 3) (by decide) (by decide) rfl w6 .rfl _ fun y w7 e7 ⟨k, hk, hy⟩ => ?_
      cases hy
      refine ⟨rfl, .inr ⟨decide (V.int k = V.int 2), rfl, q2 _ w7 e7 ⟨_, ?_, rfl⟩⟩⟩
      split <;> decide
    · cases hx
      cases hy
      exact ⟨_, _, rfl, rfl, q2 _ w6 .rfl ⟨_, ⟨by omega, by omega⟩, rfl⟩⟩
    · cases h6
      have own6 := own5.le e6 hlj
      have l6 := l5.trans e6
      show tDrop _ _ [some (.ref j), some (.int most), some (.int many), some (.int la2), some (.ref l), some (.int i), none, none, none, none, none] w6.h
      refine st_app (J := Jj j) (R := RI la2) own6 hlj rfl (ev_is rfl) (by rw [List.length_map]; omega) fun u7 w7 w8 e7 h7 m8 => ?_
      cases h7
      have own7 := own6.le e7 hlj
      refine hK _ w8 (fun p o h => m8.ef p o (e7.ef p o (e6.ef p o (e5.ef p o h)))) ⟨(l6.trans e7).mt m8 hll0 own7.f, la2, ps ++ [la2], _, rfl, by rw [List.map_append]; exact m8.own own7.f, by simp [hpl], ?_, fun p hp => ?_, by omega, by omega⟩
      · rw [List.pairwise_append]
        refine ⟨hasc, by simp, fun a ha b hb => ?_⟩
        have : b = la2 := by simpa using hb
        subst this
        have := hpos a ha
        omega
      · rcases List.mem_append.mp hp with hp | hp
        · have := hpos p hp
          omega
        · have : p = la2 := by simpa using hp
          subst this
          omega
  rintro σ1 w4 ⟨l4, la, ps, x5, rfl, own4, hpl, hasc, hpos, hla0, hla⟩
  -- goals, cells
  have hJ4 := hJ'.le l4
  have hcat : EvN (Jj j) (tOp rCat (tOp rCat (tLst (tCons (tC (.int 0)) tNil)) (tVar 4)) (tLst (tCons (tOp rAddI (tVar 3) (tC (.int 1))) (tCons (tOp rAddI (tVar 3) (tC (.int 2))) tNil)))) [some (.ref j), some (.int most), some (.int many), some (.int la), some (.ref l), x5, none, none, none, none, none] w4 fun f o => ∃ xs, o = .lst xs ∧ AllR f (([RI 0] ++ ps.map RI) ++ [RI (la + 1), RI (la + 2)]) xs :=
    en_cat (jug_ne hJ4) (evh_n (jug_ne hJ4) (en_cat (jug_ne hJ4) (evh_lst (jug_ne hJ4) (ea_cons ev_cv ea_nil) (by simp)) (evh_own (i := 4) own4 hlj rfl (allR_ints.mpr rfl)) (by simp; omega))) (evh_lst (jug_ne hJ4) (ea_cons (ev_add (a := la) (b := 1) (ev_is rfl) ev_cv) (ea_cons (ev_add (a := la) (b := 2) (ev_is rfl) ev_cv) ea_nil)) (by simp)) (by simp; omega)
  obtain ⟨goals, hgoals⟩ : ∃ goals : List Int, goals = 0 :: (ps ++ [la + 1, la + 2]) := ⟨_, rfl⟩
  have hgR : ([RI 0] ++ ps.map RI) ++ [RI (la + 1), RI (la + 2)] = goals.map RI := by rw [hgoals]; simp
  rw [hgR] at hcat
  have hgl : goals.length = many + 3 := by rw [hgoals]; simp [hpl]
  have hgb : ∀ x ∈ goals, 0 ≤ x ∧ x ≤ 999 := fun x hx => by
    rw [hgoals] at hx
    simp at hx
    rcases hx with rfl | hx | rfl | rfl
    · omega
    · have := hpos x hx; omega
    · omega
    · omega
  refine st_par (en_lsX hcat w4 .rfl _ fun vg w5 e5 hg => en_lst (J := Jj j) (w := w5) ea_nil (by simp) w5 .rfl _ fun lc o w6 e6 hlc own6 ⟨xs, ho, hxs⟩ => ?_)
  cases hxs.nil_inv
  subst ho
  have hlc0 : w'.h lc = none := (l4.trans e5).fresh hlc
  have hcj : ¬ Jj j lc := jug_ne hJ' lc hlc0
  have ncl : lc ≠ l := fun z => by subst z; rw [(own4.le e5 hlj).h] at hlc; cases hlc
  have l6 := (l4.trans e5).trans e6
  have ol6 := (own4.le e5 hlj).le e6 hlj
  have l7 : Le (Jj j) w' (w6.pub l _ ol6.h) := l6.pub hll0 ol6.h
  have oc7 := own6.pub ol6.h ncl
  have ef7 : Exf w6.f (w6.pub l _ ol6.h).f := pub_ef ol6.h ol6.f
  have hps7 : (LstR K (ps.map RI)).r (w6.pub l _ ol6.h).f (.ref l) := pub_lst ol6 (allR_ints.mpr rfl)
  have hg7 : (LstR K (goals.map RI)).r (w6.pub l _ ol6.h).f vg := lsX_lst (Rp.mono _ ef7 (Rp.mono _ e6.ef hg))
  show tSeq (tFor (iEnum K (tCons (tVar 4) tNil)) (gTup K 2 (gCons (gName 8) (gCons (gName 9) gNil))) _) _ { nx := fun _ H' => Q .non H', rt := Q } [some (.ref j), some (.int most), some (.int many), some (.int la), some (.ref l), x5, some vg, some (.ref lc), none, none, none] (w6.pub l _ ol6.h).h
  generalize w6.pub l _ ol6.h = w7 at l7 oc7 ef7 hps7 hg7
  have hsrc := src_enum (K := K) (J := Jj j) (te := tVar 4) (σ := [some (.ref j), some (.int most), some (.int many), some (.int la), some (.ref l), x5, some vg, some (.ref lc), none, none, none]) (w := w7) (ev_var (v := .ref l) rfl hps7)
  rw [List.length_map] at hsrc
  refine sq_for (J := Jj j) hsrc (fun i σ1 w8 => Le (Jj j) w' w8 ∧ Exf w7.f w8.f ∧ ∃ (cs : Cells), ∃ x8 x9 x10 xs, σ1 = [some (.ref j), some (.int most), some (.int many), some (.int la), some (.ref l), x5, some vg, some (.ref lc), x8, x9, x10] ∧ Own w8 lc (.lst xs) ∧ AllR w8.f (cs.map (clR K)) xs ∧ cs.map (·.1) = ps.take i ∧ ∀ q ∈ cs, q.2 ∈ goals)
    (fun w8 e8 => ⟨l7.trans e8, e8.ef, [], none, none, none, [], rfl, oc7.le e8 hcj, trivial, rfl, by simp⟩) ?_ ?_
  · rintro i σ1 w8 hi ⟨l8, ef8, cs, x8, x9, x10, xs, rfl, own8, all8, hcs, hcg⟩ z w9 e9 hz Kk bk hK
    rw [getD_map hi] at hz
    refine g_two hz fun a b ha hb => ?_
    cases ha
    cases hb
    have l9 := l8.trans e9
    have hJ9 := hJ'.le l9
    have hgix : i + 2 < goals.length := by omega
    have hvg : ∀ {x8 x9 x10 : Option V} {w' : Wd}, Exf w7.f w'.f → Ev (Jj j) (tVar 6) [some (.ref j), some (.int most), some (.int many), some (.int la), some (.ref l), x5, some vg, some (.ref lc), x8, x9, x10] w' (LstR K (goals.map RI)) := fun e => ev_var (v := vg) rfl (Rp.mono _ e hg7)
    have ef9 : Exf w7.f w9.f := fun p o h => e9.ef p o (ef8 p o h)
    show tSeq _ _ _ [some (.ref j), some (.int most), some (.int many), some (.int la), some (.ref l), x5, some vg, some (.ref lc), some (.int i), some (.int ps[i]), x10] w9.h
    refine sq_asg (J := Jj j) (R := RI goals[i + 2]) (ev_ixL (n := i + 2) (hvg ef9) ((ev_add (a := i) (b := 2) (ev_is rfl) ev_cv).of (by congr 2)) (by rw [List.getElem?_map, List.getElem?_eq_getElem hgix]; rfl)) fun v10 w10 e10 h10 => ?_
    cases h10
    have l10 := l9.trans e10
    have hJ10 := hJ'.le l10
    have ef10 : Exf w7.f w10.f := fun p o h => e10.ef p o (ef9 p o h)
    -- what follows, whatever the goal is
    have rest : ∀ (gl : Int) (w11 : Wd), gl ∈ goals → Le (Jj j) w10 w11 → tDrop (tBM K "list" rAppend (tVar 7) (tCons (tTup (tCons (tVar 9) (tCons (tVar 10) tNil))) tNil)) { nx := Kk, rt := Q, ct := Kk, bk := bk } [some (.ref j), some (.int most), some (.int many), some (.int la), some (.ref l), x5, some vg, some (.ref lc), some (.int i), some (.int ps[i]), some (.int gl)] w11.h := fun gl w11 hgl e11 => by
      have own11 := ((own8.le e9 hcj).le e10 hcj).le e11 hcj
      have hxl := all8.len
      rw [List.length_map] at hxl
      have hcl : cs.length = i := by have := congrArg List.length hcs; simp at this; omega
      refine st_app (J := Jj j) (R := clR K (ps[i], gl)) own11 hcj rfl (ev_tup (ea_cons (ev_is rfl) (ea_cons (ev_is rfl) ea_nil)) (by simp)) (by omega) fun u12 w12 w13 e12 h12 m13 => ?_
      have own12 := own11.le e12 hcj
      have efx : Exf w8.f w13.f := fun p o h => m13.ef p o (e12.ef p o (e11.ef p o (e10.ef p o (e9.ef p o h))))
      refine hK _ w13 efx ⟨((l10.trans e11).trans e12).mt m13 hlc0 own12.f, fun p o h => efx p o (ef8 p o h), cs ++ [(ps[i], gl)], _, _, _, _, rfl, m13.own own12.f, ?_, ?_, fun q hq => ?_⟩
      · rw [List.map_append]
        exact (all8.mono efx).snoc (Rp.mono _ m13.ef h12)
      · rw [List.map_append, hcs, List.take_succ_eq_append_getElem hi]
        rfl
      · rcases List.mem_append.mp hq with hq | hq
        · exact hcg q hq
        · have : q = (ps[i], gl) := by simpa using hq
          subst this
          exact hgl
    show tSeq _ _ _ [some (.ref j), some (.int most), some (.int many), some (.int la), some (.ref l), x5, some vg, some (.ref lc), some (.int i), some (.int ps[i]), some (.int goals[i + 2])] w10.h
    refine st_ifS (J := Jj j) (P := fun _ => True) (et_any (ev_op (ev_takeB (K := K) (cS := cS) (cP := cP) (c := 0) hJ10 (n := 3) (by decide) (by decide) rfl) (ev_cv (v := .int 0)) fun x y w6 e6 ⟨k, _, hx⟩ hy Q2 q2 => ?_)) (fun _ w11 e11 => ?_) (fun _ w11 e11 => ?_)
    · cases hx
      cases hy
      exact ⟨k, 0, rfl, rfl, q2 _ w6 .rfl ⟨_, trivial, rfl⟩⟩
    · refine st_asg (J := Jj j) (ev_oneI (K := K) (cS := cS) (cP := cP) (hJ10.le e11) (l := goals) (by rw [hgoals]; simp) (by omega) rfl (hvg fun p o h => e11.ef p o (ef10 p o h))) fun v12 w12 e12 ⟨gl, hgl2, h12⟩ => ?_
      cases h12
      exact rest gl w12 hgl2 (e11.trans e12)
    · exact rest goals[i + 2] w11 (List.getElem_mem _) e11
  rintro σ1 w8 ⟨l8, ef8, cs, x8, x9, x10, xs, rfl, own8, all8, hcs, hcg⟩
  rw [List.take_length] at hcs
  have l9 : Le (Jj j) w' (w8.pub lc _ own8.h) := l8.pub hlc0 own8.h
  have hc9 : (LstR K (cs.map (clR K))).r (w8.pub lc _ own8.h).f (.ref lc) := pub_lst own8 all8
  have hg9 : (LstR K (goals.map RI)).r (w8.pub lc _ own8.h).f vg := Rp.mono _ (pub_ef own8.h own8.f) (Rp.mono _ ef8 hg7)
  have hD : DrC most cs goals := by
    have hcl : cs.length = ps.length := by rw [← hcs]; simp
    refine ⟨by omega, ?_, fun q hq => ?_, hgb, by rw [hgoals]; simp, by omega⟩
    · have : (cs.map (·.1)).Pairwise (· < ·) := by rw [hcs]; exact hasc
      rwa [List.pairwise_map] at this
    · have h1 : q.1 ∈ ps := by rw [← hcs]; exact List.mem_map.mpr ⟨q, hq, rfl⟩
      have := hpos q.1 h1
      exact ⟨by omega, by omega, hcg q hq⟩
  show tRet (tTup (tCons (tVar 7) (tCons (tVar 6) tNil))) { nx := fun _ H' => Q .non H', rt := Q } [some (.ref j), some (.int most), some (.int many), some (.int la), some (.ref l), x5, some vg, some (.ref lc), x8, x9, x10] (w8.pub lc _ own8.h).h
  exact st_ret (J := Jj j) (ev_tup (ea_cons (ev_var (v := .ref lc) rfl hc9) (ea_cons (ev_var (v := vg) rfl hg9) ea_nil)) (by simp)) fun vr wr er hr => q vr wr (l9.trans er) ⟨(cs, goals), hD, hr⟩
end
end Z
end

section -- P29
set_option Elab.async false
set_option linter.all false
set_option maxRecDepth 100000
set_option maxHeartbeats 4000000
set_option autoImplicit false
namespace Z
open PySem PySem.Spec L2 K07
open M7 (Names Cells Kn Kd)
section
variable {j : Addr} {J : Addr → Prop} {σ : St} {w w0 w1 : Wd} {ta tb tc t te : TE} {ts : TA} {K : PySem.W.Frag} {cS cP : Addr} {D : Ends} {sa rest : TS} {g g1 : TG} {i k m : Nat} {R Ra Rb Rc : Rp} {Rs Ss : List Rp}
/-- a list of draws: what was drawn -/
theorem drawn_all {f : Hp} {goals : List Int} : ∀ {zs : List Nat} {xs : List V}, AllR f (zs.map fun c => Some Int (fun g => g ∈ goals) fun g => nmR K (c, g)) xs → ∃ ns : Names, ns.map (·.1) = zs ∧ (∀ q ∈ ns, q.2 ∈ goals) ∧ AllR f (ns.map (nmR K)) xs
  | [], xs, h => ⟨[], rfl, by simp, h⟩
  | c :: zs, xs, h => by
    obtain ⟨v, ws, rfl, ⟨x, hx, h1⟩, h2⟩ := h.cons_inv
    obtain ⟨ns, e, h3, h4⟩ := drawn_all h2
    refine ⟨(c, x) :: ns, by rw [List.map_cons, e], fun q hq => ?_, h1, h4⟩
    rcases List.mem_cons.mp hq with rfl | hq
    · exact hx
    · exact h3 q hq
structure DrS (zs : List Nat) (most : Nat) (ns : Names) (cs : Cells) : Prop where
  ns_ : ns.map (·.1) = zs
  pl : ∀ q ∈ ns, 0 ≤ q.2 ∧ q.2 ≤ 999
  len : cs.length ≤ most
  asc : cs.Pairwise fun a b => a.1 < b.1
  pos : ∀ q ∈ cs, 0 < q.1 ∧ q.1 ≤ 999 ∧ 0 ≤ q.2 ∧ q.2 ≤ 999
theorem DrS.vn {zs : List Nat} {n most : Nat} {ns : Names} {cs : Cells} (h : DrS zs most ns cs) (hz : Lets n zs) (h1 : 1 ≤ n) (h4 : n ≤ 4) : VN ns where
  one := by have := congrArg List.length h.ns_; simp at this; have := hz.2.1; omega
  four := by have := congrArg List.length h.ns_; simp at this; have := hz.2.1; omega
  let_ := fun q hq => hz.2.2 _ (by rw [← h.ns_]; exact List.mem_map.mpr ⟨q, hq, rfl⟩)
  asc := by have := hz.1; rw [← h.ns_, List.pairwise_map] at this; exact this
  pl := h.pl
theorem DrS.vc {zs : List Nat} {most : Nat} {ns : Names} {cs : Cells} (h : DrS zs most ns cs) (hm : most ≤ 12) : VC cs where
  few := by have := h.len; omega
  asc := h.asc
  pos := h.pos
theorem ev_drawn {zs : List Nat} {goals : List Int} (hj : ∀ D, w.h D = none → ¬ J D) (h : Ev J t σ w (LstR K (zs.map fun c => Some Int (fun g => g ∈ goals) fun g => nmR K (c, g)))) :
    Ev J (tCB (rTupF K) (tCons t tNil)) σ w (Some Names (fun ns => ns.map (·.1) = zs ∧ ∀ q ∈ ns, q.2 ∈ goals) fun ns => TupD K (ns.map nmD)) := fun w' e Q q => h w' e _ fun v w1 e1 ⟨a, xs, h1, h2, h3⟩ => by
  obtain ⟨ns, g1, g2, g3⟩ := drawn_all h3
  have hd : (Dat K (.list (ns.map nmD))).r w1.f v := lst_dat.mp (by rw [List.map_map]; exact lstR_map (fun x _ u => nm_to) (⟨a, xs, h1, h2, g3⟩ : (LstR K (ns.map (nmR K))).r w1.f v))
  have hv : Ev J (fun _ H Q => Q v H) σ w1 (Dat K (.list (ns.map nmD))) := fun w2 e2 Q2 q2 => q2 v w2 .rfl (Rp.mono _ e2.ef hd)
  exact ev_tupF (ta := fun _ H Q => Q v H) hv w1 .rfl Q fun v2 w2 e2 h2 => q v2 w2 (e1.trans e2) ⟨ns, ⟨g1, g2⟩, h2⟩
theorem pj_drawn_store (hJ : Jug w j) {zs : List Nat} {most : Nat} (hzl : zs.length ≤ 4) (hm : most ≤ 12) : Pu (Jj j) (p_law_drawn_store K cS cP) w [Is (.ref j), letR K zs, RI most] (Some (Names × Cells) (fun q => DrS zs most q.1 q.2) fun q => TupR K [TupD K (q.1.map nmD), TupD K (q.2.map clD)]) := fun vs w' e a Q q => by
  obtain ⟨v, ws, rfl, h1, a⟩ := a.cons_inv
  obtain ⟨u, ws, rfl, h2, a⟩ := a.cons_inv
  obtain ⟨x, ws, rfl, h3, a⟩ := a.cons_inv
  cases a.nil_inv
  cases h1
  cases h3
  have hJ' := hJ.le e
  refine ⟨rfl, ?_⟩
  show tSeq _ _ _ [some (.ref j), some u, some (.int most), none, none, none] w'.h
  refine sq_asgG (J := Jj j) (ev_cl (ea_cons (ev_is (i := 0) (v := .ref j) rfl) (ea_cons (ev_is (i := 2) rfl) ea_nil)) (pj_drawn_cells (K := K) (cS := cS) (cP := cP) hJ' hm)) fun vp w1 e1 ⟨⟨cs, goals⟩, hD, hp⟩ => g_two hp fun vc vg hc hg => ?_
  have hJ1 := hJ'.le e1
  show tRet _ _ [some (.ref j), some u, some (.int most), some vc, some vg, none] w1.h
  have hu : Ev (Jj j) (tVar 1) [some (.ref j), some u, some (.int most), some vc, some vg, none] w1 (letR K zs) := ev_var (v := u) rfl (Rp.mono _ e1.ef h2)
  have hlc := ev_lcAll (J := Jj j) (K := K) (σ := [some (.ref j), some u, some (.int most), some vc, some vg, none]) (w := w1) (l := zs) (ta := tVar 1) (te := tTup (tCons (tVar 5) (tCons (tCl (p_law_one_of K cS cP) (tCons (tVar 0) (tCons (tVar 4) tNil))) tNil))) (i := 5) (A := fun c => RS (chr c)) (E := fun c => Some Int (fun g => g ∈ goals) fun g => nmR K (c, g)) (hu.of (by unfold letR; rw [List.map_map]; rfl)) (by omega) (fun c hcz w2 e2 y hy => ?_) (jug_ne hJ1)
  · refine st_ret (J := Jj j) (R := Some (Names × Cells) (fun q => DrS zs most q.1 q.2) fun q => TupR K [TupD K (q.1.map nmD), TupD K (q.2.map clD)]) ?_ fun vr wr er hr => q vr wr (e1.trans er) hr
    refine (ev_tup (K := K) (ea_cons (ev_drawn (jug_ne hJ1) hlc) (ea_cons (ev_tupF (cls_to (ev_var (i := 3) (v := vc) rfl hc))) ea_nil)) (by simp)).imp fun w' v _ ⟨a, xs, h1, h2, h3⟩ => ?_
    obtain ⟨y, ys, rfl, ⟨ns, ⟨g1, g2⟩, g3⟩, h3⟩ := h3.cons_inv
    obtain ⟨z, ys, rfl, h4, h3⟩ := h3.cons_inv
    cases h3.nil_inv
    exact ⟨(ns, cs), ⟨g1, fun q hq => hD.goal _ (g2 q hq), hD.len, hD.asc, fun q hq => ⟨(hD.pos q hq).1, (hD.pos q hq).2.1, (hD.goal _ (hD.pos q hq).2.2).1, (hD.goal _ (hD.pos q hq).2.2).2⟩⟩, a, _, h1, h2, g3, h4, trivial⟩
  · show Ev (Jj j) _ [some (.ref j), some u, some (.int most), some vc, some vg, some y] w2 _
    cases hy
    refine (ev_tup (K := K) (ea_cons (ev_is (i := 5) rfl) (ea_cons (ev_oneI (K := K) (cS := cS) (cP := cP) (hJ1.le e2) hD.ne hD.few rfl (ev_var (i := 4) (v := vg) rfl (Rp.mono _ e2.ef hg))) ea_nil)) (by simp)).imp fun w' v _ ⟨a, xs, h1, h2, h3⟩ => ?_
    obtain ⟨y, ys, rfl, h4, h3⟩ := h3.cons_inv
    obtain ⟨z, ys, rfl, ⟨g, hg, hz⟩, h3⟩ := h3.cons_inv
    cases h3.nil_inv
    exact ⟨g, hg, a, _, h1, h2, h4, hz, trivial⟩
end
end Z
end

section -- P30
set_option Elab.async false
set_option linter.all false
set_option maxRecDepth 100000
set_option maxHeartbeats 4000000
set_option autoImplicit false
namespace Z
open PySem PySem.Spec L2 K07
open M7 (Names Cells Kn Kd)
section
variable {J : Addr → Prop} {σ : St} {w w0 w1 : Wd} {ta tb tc t te : TE} {ts : TA} {K : PySem.W.Frag} {cS cP : Addr} {D : Ends} {sa rest : TS} {g g1 : TG} {i k m : Nat} {R Ra Rb Rc : Rp} {Rs Ss : List Rp}
theorem ev_mul {a b : Int} (ha : Ev J ta σ w (RI a)) (hb : Ev J tb σ w (RI b)) (hc : CMul a b) : Ev J (tOp rMulI ta tb) σ w (RI (a * b)) := ev_opI ha hb hc fun _ => rfl
theorem ev_mod {a b : Int} (ha : Ev J ta σ w (RI a)) (hb : Ev J tb σ w (RI b)) (hc : 0 < b) : Ev J (tOp rModI ta tb) σ w (RI (a % b)) := ev_opI ha hb hc fun _ => rfl
theorem ev_abs {a : Int} (ha : Ev J ta σ w (RI a)) : Ev J (tCB rAbs (tCons ta tNil)) σ w (RI (if a < 0 then -a else a)) := fun w' e Q q => ha w' e _ fun v w1 e1 h => by
  cases h
  exact ⟨a, rfl, q _ w1 e1 rfl⟩
theorem ev_min2 {a b : Int} (ha : Ev J ta σ w (RI a)) (hb : Ev J tb σ w (RI b)) : Ev J (tCB rMin2 (tCons ta (tCons tb tNil))) σ w (RI (if b < a then b else a)) := fun w' e Q q => ha w' e _ fun v w1 e1 h => by
  cases h
  refine hb w1 (e.trans e1) _ fun u w2 e2 h2 => ?_
  cases h2
  exact ⟨a, b, rfl, q _ w2 (e1.trans e2) rfl⟩
theorem ev_max2 {a b : Int} (ha : Ev J ta σ w (RI a)) (hb : Ev J tb σ w (RI b)) : Ev J (tCB rMax2 (tCons ta (tCons tb tNil))) σ w (RI (if b > a then b else a)) := fun w' e Q q => ha w' e _ fun v w1 e1 h => by
  cases h
  refine hb w1 (e.trans e1) _ fun u w2 e2 h2 => ?_
  cases h2
  exact ⟨a, b, rfl, q _ w2 (e1.trans e2) rfl⟩
theorem cut_take (xs : List V) (n : Nat) : cutV xs none (some (n : Int)) = xs.take n := by
  unfold cutV
  rw [HT.sIx_none, HT.sIx_nat]
  simp only [List.drop_zero, Nat.sub_zero]
  by_cases h : n ≤ xs.length
  · rw [Nat.min_eq_left h]
  · rw [Nat.min_eq_right (by omega), List.take_of_length_le (by omega), List.take_of_length_le (by omega)]
theorem allR_take {f : Hp} : ∀ {n : Nat} {Rs : List Rp} {xs : List V}, AllR f Rs xs → AllR f (Rs.take n) (xs.take n)
  | 0, _, _, _ => trivial
  | n + 1, [], xs, h => by cases h.nil_inv; trivial
  | n + 1, R :: Rs, xs, h => by
    obtain ⟨v, ws, rfl, h1, h2⟩ := h.cons_inv
    exact ⟨h1, allR_take h2⟩
theorem en_slL {n : Nat} (h : Ev J te σ w (LstR K Rs)) : EvN J (tSl (rSlL K) te tNoPart (tPart (tC (.int n)))) σ w fun f o => ∃ xs, o = .lst xs ∧ AllR f (Rs.take n) xs := fun w' e Q q =>
  h w' e _ fun v w1 e1 ⟨a, xs, h1, h2, h3⟩ => by
    subst h1
    refine ⟨n, rfl, a, xs, rfl, sqL_h w1 h2, fun p hp => ?_⟩
    rw [cut_take]
    exact q p _ (w1.put p _ (w1.fresh_f hp)) (e1.trans (put_le hp)) (e1.fresh hp) (Mt.own (Wd.put_mt _) (w1.fresh_f hp)) ⟨_, rfl, allR_take h3⟩
theorem ev_test_ge {a : Int} (h : Ev J te σ w (RI a)) : EvT J (tTest (tOp rGeI te (tOp (rI CPow fun i j => .int (i ^ j.toNat)) (tC (.int 10)) (tC (.int 18))))) σ w fun _ => True := 
  fun w' e Q q => (et_test (ev_ge (a := a) (b := 1000000000000000000) (c := decide (1000000000000000000 ≤ a)) h ((ev_opI (C := CPow) (g := fun i j => .int (i ^ j.toNat)) (a := 10) (b := 18) (R := Is (.int ((10 : Int) ^ (18 : Int).toNat))) ev_cv ev_cv ⟨by decide, by decide, by decide⟩ fun _ => rfl).of (by rw [show (10 : Int) ^ (18 : Int).toNat = 1000000000000000000 by decide +kernel])) rfl)) w' e Q fun b w'' e'' _ => q b w'' e'' trivial
theorem tail_mul {a : Int} {c : Int} (h1 : -(2 ^ 64) < c) (h2 : c < 2 ^ 64) : CMul a c := .inr ⟨h1, h2⟩
theorem pn_jug {ns : List Int} {tn : Nat} (hns : ns.length ≤ 63) : ∀ vs w', Le J0 w w' → AllR w'.f [LstR K (ns.map RI), RI tn] vs → ∀ Q : VK, (∀ p o w'', Le J0 w' w'' → w'.h p = none → Own w'' p o → JugO o → Q (.ref p) w''.h) → p_law_jug K cS cP vs w'.h Q E0 := fun vs w' e a Q q => by
  obtain ⟨v, ws, rfl, h1, a⟩ := a.cons_inv
  obtain ⟨u, ws, rfl, h2, a⟩ := a.cons_inv
  cases a.nil_inv
  cases h2
  refine ⟨rfl, ?_⟩
  show tSeq _ _ _ [some v, some (.int tn), none, none, none, none] w'.h
  refine sq_asg (J := J0) (ev_add (a := 104729) (b := 7907 * (tn : Int)) ev_cv (ev_mul ev_cv (ev_is rfl) (.inl ⟨by decide, by decide⟩))) fun v1 w1 e1 hv1 => ?_
  cases hv1
  show tSeq _ _ _ [some v, some (.int tn), some (.int (104729 + 7907 * tn)), none, none, none] w1.h
  have hl0 : Ev J0 (tVar 0) [some v, some (.int tn), some (.int (104729 + 7907 * tn)), none, none, none] w1 (LstR K (ns.map RI)) := ev_var (v := v) rfl (Rp.mono _ e1.ef h1)
  have hsl : Ev J0 (tSl (rSlL K) (tVar 0) tNoPart (tPart (tC (.int 8)))) [some v, some (.int tn), some (.int (104729 + 7907 * tn)), none, none, none] w1 (LstR K ((ns.take 8).map RI)) := en_lstR (by
    have := en_slL (n := 8) hl0
    rw [← List.map_take] at this
    exact this)
  have hsrc := src_list hsl
  rw [List.length_map] at hsrc
  refine sq_for (J := J0) hsrc (fun i σ1 w2 => Le J0 w' w2 ∧ ∃ (sd : Int) (x3 : Option V), σ1 = [some v, some (.int tn), some (.int sd), x3, none, none])
    (fun w2 e2 => ⟨e1.trans e2, _, none, rfl⟩) ?_ ?_
  · rintro i σ1 w2 hi ⟨l2, sd, x3, rfl⟩ z w3 e3 hz Kk bk hK
    rw [getD_map hi] at hz
    cases hz
    show tAsg _ _ _ [some v, some (.int tn), some (.int sd), some (.int (ns.take 8)[i]), none, none] w3.h
    refine st_asg (J := J0) (ev_mod (a := (sd * 65537 + (ns.take 8)[i] % 1000000007 * 40961 + 17)) (b := 1000000007) (ev_int1 (ev_add (b := 17) (ev_add (a := sd * 65537) (b := (ns.take 8)[i] % 1000000007 * 40961) (ev_mul (b := 65537) (ev_is (i := 2) rfl) ev_cv (tail_mul (by decide) (by decide))) (ev_mul (b := 40961) (ev_mod (b := 1000000007) (ev_int1 (ev_is (i := 3) rfl)) ev_cv (by decide)) ev_cv (tail_mul (by decide) (by decide)))) ev_cv)) ev_cv (by decide)) fun v4 w4 e4 h4 => ?_
    cases h4
    exact hK _ w4 (fun p o h => e4.ef p o (e3.ef p o h)) ⟨(l2.trans e3).trans e4, _, _, rfl⟩
  rintro σ1 w2 ⟨l2, sd, x3, rfl⟩
  have hl2 : ∀ {x4 x5 : Option V} {w3 : Wd}, Le J0 w2 w3 → Ev J0 (tVar 0) [some v, some (.int tn), some (.int sd), x3, x4, x5] w3 (LstR K (ns.map RI)) := fun e => ev_var (v := v) rfl (Rp.mono _ e.ef (Rp.mono _ l2.ef h1))
  refine sq_asg (J := J0) (R := Some Int (fun _ => True) RI) (ev_if (P := fun b => b = decide ((tn : Int) < ns.length)) (et_test (ev_lt (a := tn) (b := ns.length) (ev_is rfl) ((ev_lenL (hl2 .rfl)).of (by rw [List.length_map])) rfl)) (fun hb => ?_) fun _ => ?_) fun v3 w3 e3 ⟨cell, _, h3⟩ => ?_
  · have hlt : tn < ns.length := by have := of_decide_eq_true hb.symm; omega
    exact (ev_int1 (ev_ixL (n := tn) (R := RI ns[tn]) (hl2 .rfl) (ev_is rfl) (by rw [List.getElem?_map, List.getElem?_eq_getElem hlt]; rfl))).imp fun _ _ _ r => ⟨_, trivial, r⟩
  · exact (ev_is (i := 2) (v := .int sd) rfl).imp fun _ _ _ r => ⟨sd, trivial, r⟩
  cases h3
  have l3 := l2.trans e3
  show tSeq _ _ _ [some v, some (.int tn), some (.int sd), x3, some (.int cell), none] w3.h
  have habs : Ev J0 (tCB rAbs (tCons (tVar 4) tNil)) [some v, some (.int tn), some (.int sd), x3, some (.int cell), none] w3 (RI (if cell < 0 then -cell else cell)) := ev_abs (ev_is rfl)
  refine sq_asg (J := J0) (R := Some Int (fun g => 0 ≤ g) RI) (ev_if (P := fun _ => True) (ev_test_ge habs) (fun _ => ?_) fun _ => ?_) fun v4 w4 e4 ⟨great, hg, h4⟩ => ?_
  · exact habs.imp fun _ _ _ r => ⟨_, by split <;> omega, r⟩
  · exact (ev_cv (v := .int 0)).imp fun _ _ _ r => ⟨0, by decide, r⟩
  cases h4
  have l4 := l3.trans e4
  show tRet _ _ [some v, some (.int tn), some (.int sd), x3, some (.int cell), some (.int great)] w4.h
  refine en_lst (J := J0) (w := w4) (ea_cons (ev_is (i := 5) (v := .int great) rfl) (ea_cons (ev_mod (a := (sd * 39373 + cell % 1000000007 * 48271 + 1)) (b := 2147483399) (ev_int1 (ev_add (b := 1) (ev_add (a := sd * 39373) (b := cell % 1000000007 * 48271) (ev_mul (b := 39373) (ev_is (i := 2) rfl) ev_cv (tail_mul (by decide) (by decide))) (ev_mul (b := 48271) (ev_mod (b := 1000000007) (ev_int1 (ev_is (i := 4) rfl)) ev_cv (by decide)) ev_cv (tail_mul (by decide) (by decide)))) ev_cv)) ev_cv (by decide)) (ea_cons (ev_cv (v := .int 0)) ea_nil))) (by simp) w4 .rfl _ fun p o w5 e5 hp own5 ⟨xs, ho, hxs⟩ => ?_
  obtain ⟨y1, ys, rfl, hy1, hxs⟩ := hxs.cons_inv
  obtain ⟨y2, ys, rfl, hy2, hxs⟩ := hxs.cons_inv
  obtain ⟨y3, ys, rfl, hy3, hxs⟩ := hxs.cons_inv
  cases hxs.nil_inv
  cases hy1
  cases hy2
  cases hy3
  subst ho
  refine q p _ w5 (l4.trans e5) (l4.fresh hp) own5 ⟨great, _, 0, rfl, hg, Int.emod_nonneg _ (by decide), Int.lt_trans (Int.emod_lt_of_pos _ (by decide)) (by decide), by decide⟩
end
end Z
end

section -- P31
set_option Elab.async false
set_option linter.all false
set_option maxRecDepth 100000
set_option maxHeartbeats 4000000
set_option autoImplicit false
namespace Z
open PySem PySem.Spec L2 K07
open M7 (Names Cells Kn Kd)
/-! ### data that repr shows -/
structure OkD (n dp : Nat) (d : PyData) : Prop where
  sh : d.showable = true
  nd : d.hasDict = false
  dp : d.depth ≤ dp
  lf : d.leavesShort 13 = true
  we : d.weight ≤ n
structure OkA (n dp : Nat) (l : List PyData) : Prop where
  sh : PyData.showableAll l = true
  nd : PyData.hasDictAll l = false
  dp : PyData.depthAll l ≤ dp
  lf : PyData.leavesShortAll 13 l = true
  we : PyData.weightAll l ≤ n
theorem OkD.mono {n m dp dq : Nat} {d : PyData} (h : OkD n dp d) (h1 : n ≤ m) (h2 : dp ≤ dq) : OkD m dq d := ⟨h.sh, h.nd, Nat.le_trans h.dp h2, h.lf, Nat.le_trans h.we h1⟩
theorem OkA.nil : OkA 0 0 [] := ⟨by simp only [PyData.showableAll], by simp only [PyData.hasDictAll], by simp [PyData.depthAll], by simp only [PyData.leavesShortAll], by simp [PyData.weightAll]⟩
theorem OkA.cons {n m dp dq : Nat} {d : PyData} {l : List PyData} (h : OkD n dp d) (t : OkA m dq l) : OkA (n + 1 + m) (max dp dq) (d :: l) where
  sh := by simp only [PyData.showableAll, h.sh, t.sh, Bool.and_self]
  nd := by simp only [PyData.hasDictAll, h.nd, t.nd, Bool.or_self]
  dp := by simp only [PyData.depthAll]; have := h.dp; have := t.dp; omega
  lf := by simp only [PyData.leavesShortAll, h.lf, t.lf, Bool.and_self]
  we := by simp only [PyData.weightAll]; have := h.we; have := t.we; omega
theorem OkA.mono {n m dp dq : Nat} {d : List PyData} (h : OkA n dp d) (h1 : n ≤ m) (h2 : dp ≤ dq) : OkA m dq d := ⟨h.sh, h.nd, Nat.le_trans h.dp h2, h.lf, Nat.le_trans h.we h1⟩
theorem OkA.all {n dp : Nat} : ∀ {l : List PyData} {m : Nat}, (∀ d ∈ l, OkD n dp d) → l.length ≤ m → OkA (m * (n + 1)) dp l
  | [], m, _, _ => OkA.nil.mono (Nat.zero_le _) (Nat.zero_le _)
  | d :: l, 0, _, h => by simp at h
  | d :: l, m + 1, h, hl => by
    have h1 := OkA.cons (h d List.mem_cons_self) (OkA.all (m := m) (fun e he => h e (List.mem_cons_of_mem _ he)) (by simpa using hl))
    refine h1.mono ?_ (by omega)
    rw [Nat.succ_mul]
    omega
theorem OkD.list {n dp : Nat} {l : List PyData} (h : OkA n dp l) : OkD n (dp + 1) (.list l) where
  sh := by simp only [PyData.showable, h.sh]
  nd := by simp only [PyData.hasDict, h.nd]
  dp := by simp only [PyData.depth]; have := h.dp; omega
  lf := by simp only [PyData.leavesShort, h.lf]
  we := by simp only [PyData.weight]; exact h.we
theorem OkD.tuple {n dp : Nat} {l : List PyData} (h : OkA n dp l) : OkD n (dp + 1) (.tuple l) where
  sh := by simp only [PyData.showable, h.sh]
  nd := by simp only [PyData.hasDict, h.nd]
  dp := by simp only [PyData.depth]; have := h.dp; omega
  lf := by simp only [PyData.leavesShort, h.lf]
  we := by simp only [PyData.weight]; exact h.we
theorem log_small {n : Nat} (h : n < 10 ^ 12) : n.log2 < 40 := by
  by_cases h0 : n = 0
  · subst h0; decide
  · exact (Nat.log2_lt h0).mpr (Nat.lt_of_lt_of_le h (by decide))
theorem OkD.int {i : Int} (h : i.natAbs < 10 ^ 12) : OkD 41 0 (.int i) where
  sh := by
    simp only [PyData.showable, decide_eq_true_eq]
    have := log_small h
    omega
  nd := by simp only [PyData.hasDict]
  dp := by simp [PyData.depth]
  lf := by
    simp only [PyData.leavesShort, decide_eq_true_eq]
    exact PyData.shown_int_le h
  we := by
    simp only [PyData.weight]
    have := log_small h
    split <;> omega
theorem OkD.bool (b : Bool) : OkD 0 0 (.bool b) := ⟨by simp only [PyData.showable], by simp only [PyData.hasDict], by simp [PyData.depth], by simp only [PyData.leavesShort], by simp [PyData.weight]⟩
theorem OkD.str {n : Nat} {z : Str} (h : ∀ c ∈ z.cps.toList, c < 16 ^ 8) (hn : z.length ≤ n) : OkD n 0 (.str z) := ⟨by simp only [PyData.showable], by simp only [PyData.hasDict], by simp [PyData.depth], by
  simp only [PyData.leavesShort, List.all_eq_true, decide_eq_true_eq]
  exact h, by simp only [PyData.weight]; exact hn⟩
theorem OkD.fits {n dp : Nat} {d : PyData} (h : OkD n dp d) (hn : n ≤ 2 ^ 20) : d.shown.length ≤ sizeLine := PyData.shown_fits (B := 13) (by decide) (by decide) h.lf (Nat.le_trans h.we hn)
section
variable {J : Addr → Prop} {σ : St} {w w0 w1 : Wd} {ta tb tc t te : TE} {K : PySem.W.Frag}
theorem dat_ref {f : Hp} {v : V} {l : List PyData} {d : PyData} (hd : d = .list l ∨ d = .tuple l) (h : (Dat K d).r f v) : ∃ a, v = .ref a := by
  rcases hd with rfl | rfl
  · obtain ⟨a, xs, h1, _⟩ := lst_dat.mpr h
    exact ⟨a, h1⟩
  · obtain ⟨a, xs, h1, _⟩ := tup_dat.mpr h
    exact ⟨a, h1⟩
theorem ev_repr {n dp : Nat} {l : List PyData} (h : Ev J te σ w (Dat K (.list l))) (ok : OkD n dp (.list l)) (hn : n ≤ 2 ^ 20) (hdp : dp ≤ 16) : Ev J (tCB (rReprD K) (tCons te tNil)) σ w (RS (PyData.shown (.list l))) := fun w' e Q q => h w' e _ fun v w1 e1 hv => by
  obtain ⟨a, rfl⟩ := dat_ref (.inl rfl) hv
  exact ⟨a, .list l, rfl, dp_mono w1.ok _ _ hv, ok.sh, ok.nd, Nat.le_trans ok.dp hdp, ok.fits hn, q _ w1 e1 rfl⟩
end
end Z
end

section -- P32
set_option Elab.async false
set_option linter.all false
set_option maxRecDepth 100000
set_option maxHeartbeats 4000000
set_option autoImplicit false
namespace Z
open PySem PySem.Spec L2 K07
open M7 (Names Cells Kn Kd foundOf strOf knsOf lenOf lostOf headsOf comeOf arr cellKnots)
variable {ns : Names} {cs : Cells}
theorem found_pl (vc : VC cs) (vn : VN ns) : ∀ x ∈ foundOf ns cs, 0 ≤ x ∧ x ≤ 999 := fun x hx => by
  obtain ⟨⟨p, hp, l, hl⟩, _⟩ := (M7.found_mem ns cs x).mp hx
  rcases hl.last with ⟨_, rfl⟩ | ⟨a, c, rfl, h3, h4⟩
  · obtain ⟨q, hq, rfl⟩ := List.mem_map.mp hp
    exact vn.pl q hq
  · have := vc.pos _ (M7.lookup_mem h4)
    exact ⟨this.2.2.1, this.2.2.2⟩
theorem str_pl (vc : VC cs) {k : Int} (hk : k ∈ cellKnots (arr cs) (foundOf ns cs)) : ∀ x ∈ (strOf ns cs k).1, 0 ≤ x ∧ x ≤ 999 := fun x hx => by
  have W := M7.whole ns cs
  have h1 : x ∈ M7.flat (arr cs) (strOf ns cs) (foundOf ns cs) := List.mem_flatMap.mpr ⟨k, hk, hx⟩
  obtain ⟨⟨q, hq⟩, _⟩ := (W.C.mem x).mp ((M7.flat_mem W x).mp h1)
  have := vc.pos _ (M7.lookup_mem hq)
  exact ⟨by have := this.1; simp at this; omega, this.2.1⟩
theorem str_few {k : Int} (hk : k ∈ cellKnots (arr cs) (foundOf ns cs)) : (strOf ns cs k).1.length ≤ cs.length := by
  have h : (strOf ns cs k).1.length ∈ lenOf ns cs := List.mem_map.mpr ⟨k, hk, rfl⟩
  exact (lens_pos h).2
theorem ok_int {i : Int} (h : 0 ≤ i ∧ i ≤ 999) : OkD 41 0 (.int i) := OkD.int (by omega)
theorem ok_ints {l : List Int} {m : Nat} (h : ∀ x ∈ l, 0 ≤ x ∧ x ≤ 999) (hl : l.length ≤ m) : OkA (m * 42) 0 (intD l) := OkA.all (n := 41) (fun d hd => by
  obtain ⟨x, hx, rfl⟩ := List.mem_map.mp hd
  exact ok_int (h x hx)) (by unfold intD; simpa using hl)
theorem ok_found (vc : VC cs) (vn : VN ns) : OkD 4200 1 (.tuple (intD (foundOf ns cs))) := (OkD.tuple (ok_ints (found_pl vc vn) (m := 100) (by have := found_few vc vn; omega))).mono (by omega) (by omega)
theorem ok_strs (vc : VC cs) (vn : VN ns) : OkD 300000 2 (.tuple (strsD ns cs)) := by
  refine (OkD.tuple (OkA.all (n := 2600) (dp := 1) (m := 100) (fun d hd => ?_) ?_)).mono (by omega) (by omega)
  · obtain ⟨k, hk, rfl⟩ := List.mem_map.mp hd
    exact (OkD.tuple (ok_ints (str_pl vc hk) (m := 60) (by have := str_few hk; have := vc.few; omega))).mono (by omega) (by omega)
  · unfold strsD cellKnots
    rw [List.length_map]
    have := List.length_filter_le (fun k => ((arr cs) k).isSome) (foundOf ns cs)
    have := found_few vc vn
    omega
theorem ok_ks (vc : VC cs) (vn : VN ns) : OkD 310000 3 (.list [.tuple (intD (foundOf ns cs)), .tuple (strsD ns cs)]) := (OkD.list (OkA.cons (ok_found vc vn) (OkA.cons (ok_strs vc vn) OkA.nil))).mono (by omega) (by omega)
theorem ok_nms (vn : VN ns) : OkD 1000 2 (.tuple (ns.map nmD)) := by
  refine (OkD.tuple (OkA.all (n := 100) (dp := 1) (m := 4) (fun d hd => ?_) (by rw [List.length_map]; exact vn.four))).mono (by omega) (by omega)
  obtain ⟨q, hq, rfl⟩ := List.mem_map.mp hd
  exact (OkD.tuple (OkA.cons (OkD.str (n := 1) (fun c hc => by
    have : c = q.1 := by simpa [chr] using hc
    subst this
    have := vn.let_ q hq
    have : (16 : Nat) ^ 8 = 4294967296 := by decide
    omega) (by show (1 : Nat) ≤ 1; decide)) (OkA.cons (ok_int (vn.pl q hq)) OkA.nil))).mono (by omega) (by omega)
theorem ok_cls (vc : VC cs) : OkD 10000 2 (.tuple (cs.map clD)) := by
  refine (OkD.tuple (OkA.all (n := 100) (dp := 1) (m := 60) (fun d hd => ?_) (by rw [List.length_map]; exact vc.few))).mono (by omega) (by omega)
  obtain ⟨q, hq, rfl⟩ := List.mem_map.mp hd
  have := vc.pos q hq
  exact (OkD.tuple (OkA.cons (ok_int ⟨by omega, this.2.1⟩) (OkA.cons (ok_int ⟨this.2.2.1, this.2.2.2⟩) OkA.nil))).mono (by omega) (by omega)
end Z
end

section -- P33
set_option Elab.async false
set_option linter.all false
set_option maxRecDepth 100000
set_option maxHeartbeats 4000000
set_option autoImplicit false
namespace Z
open PySem PySem.Spec L2 K07
open M7 (Names Cells Kn Kd foundOf strOf knsOf lenOf lostOf headsOf comeOf arr cellKnots)
variable {ns : Names} {cs : Cells} {kns : List Kn} {prs : List (Nat × Nat)} {ls : List Nat} {lost : Nat}
/-! ### plain signs -/
def Asc (z : Str) : Prop := ∀ c ∈ z.cps.toList, c < 128
theorem Asc.app {a b : Str} (ha : Asc a) (hb : Asc b) : Asc (a ++ b) := fun c hc => by
  have e : (a ++ b).cps.toList = a.cps.toList ++ b.cps.toList := Array.toList_append ..
  rw [e] at hc
  rcases List.mem_append.mp hc with h | h
  · exact ha c h
  · exact hb c h
theorem jn_mem {d c : Nat} : ∀ {ls : List (List Nat)}, c ∈ jn d ls → c = d ∨ ∃ l ∈ ls, c ∈ l
  | [], h => by cases h
  | [x], h => .inr ⟨x, List.mem_cons_self, h⟩
  | x :: y :: r, h => by
    rcases List.mem_append.mp h with h | h
    · exact .inr ⟨x, List.mem_cons_self, h⟩
    · rcases List.mem_cons.mp h with h | h
      · exact .inl h
      · rcases jn_mem h with h | ⟨l, h1, h2⟩
        · exact .inl h
        · exact .inr ⟨l, List.mem_cons_of_mem _ h1, h2⟩
theorem Asc.join {ys : List Str} (h : ∀ y ∈ ys, Asc y) : Asc (PySem.Txt.join " " ys) := fun c hc => by
  have e : PySem.Txt.join " " ys = Str.join ⟨#[32]⟩ ys := StrLaws.glued_eq_join _ _
  rw [e, join_cps] at hc
  rcases jn_mem hc with rfl | ⟨l, h1, h2⟩
  · decide
  · obtain ⟨y, hy, rfl⟩ := List.mem_map.mp h1
    exact h y hy c h2
theorem Asc.num (k : Nat) : Asc (numS k) := fun c hc => by have := num_dig hc; omega
theorem Asc.word {n : Nat} {kn : Kn} (g : GoodK n kn) : Asc (wordS kn) := fun c hc => by
  have hc : c ∈ wordL kn := hc
  rcases List.mem_append.mp hc with h | h
  · rcases pre_dig g h with h | h <;> omega
  · rcases List.mem_cons.mp h with h | h
    · have := sgn_3 kn.2; omega
    · have := goal_dig h; omega
theorem Asc.shape (F : KnF kns prs) : Asc (shapeS kns) := Asc.join fun y hy => by
  obtain ⟨kn, hk, rfl⟩ := List.mem_map.mp hy
  exact Asc.word (F.good kn hk)
theorem Asc.lens (ls : List Nat) : Asc (lensS ls) := by
  unfold lensS
  split
  · unfold Asc; decide +kernel
  · exact Asc.join fun y hy => by
      obtain ⟨k, _, rfl⟩ := List.mem_map.mp hy
      exact Asc.num k
theorem bar_asc : Asc " | " := by unfold Asc; decide +kernel
theorem Asc.ptext (F : KnF kns prs) : Asc (ptext kns ls lost) := (((Asc.shape F).app bar_asc).app (Asc.lens ls)).app bar_asc |>.app (Asc.num lost)
theorem OkD.asc {n : Nat} {z : Str} (h : Asc z) (hn : z.length ≤ n) : OkD n 0 (.str z) := OkD.str (fun c hc => Nat.lt_of_lt_of_le (h c hc) (by decide)) hn
theorem lens_len (hl : ls.length ≤ 100) (hb : ∀ l ∈ ls, l < 10 ^ 10) : (lensS ls).length ≤ 2000 := by
  unfold lensS
  split
  · decide
  · exact nums_len hl hb
theorem ptext_len (F : KnF kns prs) (hl : ls.length ≤ 100) (hb : ∀ l ∈ ls, l < 10 ^ 10) (h0 : lost < 10 ^ 10) : (ptext kns ls lost).length ≤ 7000 := by
  have e : ∀ a b : Str, (a ++ b).length = a.length + b.length := fun a b => strLen_append a b
  unfold ptext
  rw [e, e, e, e]
  have h1 := shape_len F
  have h2 := lens_len hl hb
  have h3 := num_len h0
  have h4 : (" | " : Str).length = 3 := by decide +kernel
  omega
end Z
end

section -- P34
set_option Elab.async false
set_option linter.all false
set_option maxRecDepth 100000
set_option maxHeartbeats 4000000
set_option autoImplicit false
namespace Z
open PySem PySem.Spec L2 K07
open M7 (Names Cells Kn Kd foundOf strOf knsOf lenOf lostOf headsOf comeOf arr cellKnots)
variable {ns : Names} {cs : Cells} {kns kns' : List Kn} {prs prs' : List (Nat × Nat)} {ls ls' : List Nat} {lost lost' : Nat}
def wordsOf (kns : List Kn) : List PyData := (kns.map wordS).map .str
def threeD (kns : List Kn) (ls : List Nat) (lost : Nat) : PyData := .tuple [.list (wordsOf kns), .list (intD (oz ls)), .int lost]
theorem strOk_asc {z : Str} (h : Asc z) : PyData.canLay0 (.str z) = true := by
  simp only [PyData.canLay0]
  unfold PyData.strOk
  rw [Array.all_eq_true_iff_forall_mem]
  intro c hc
  have := h c (Array.mem_toList_iff.mpr hc)
  simp
  omega
theorem lay_strs : ∀ {ys : List Str}, (∀ y ∈ ys, Asc y) → PyData.canLayAll0 (ys.map .str) = true ∧ PyData.depthAll (ys.map .str) = 0
  | [], _ => ⟨by simp [PyData.canLayAll0], by simp [PyData.depthAll]⟩
  | y :: ys, h => by
    have t := lay_strs (ys := ys) fun z hz => h z (List.mem_cons_of_mem _ hz)
    constructor
    · rw [List.map_cons, PyData.canLayAll0, strOk_asc (h y List.mem_cons_self), t.1]; rfl
    · rw [List.map_cons, PyData.depthAll, t.2, PyData.depth]; rfl
theorem words_asc (F : KnF kns prs) : ∀ y ∈ kns.map wordS, Asc y := fun y hy => by
  obtain ⟨kn, hk, rfl⟩ := List.mem_map.mp hy
  exact Asc.word (F.good kn hk)
theorem shaped_three (F : KnF kns prs) : SeqAt.shaped (threeD kns ls lost) = true := by
  have h := lay_strs (words_asc F)
  have h1 := lay_ints (oz ls)
  have h2 := dep_ints (oz ls)
  unfold SeqAt.shaped threeD wordsOf
  generalize (kns.map wordS).map PyData.str = A at h
  generalize intD (oz ls) = B at h1 h2
  simp [PyData.canLay0, PyData.canLayAll0, PyData.depth, PyData.depthAll, h.1, h.2, h1, h2]
theorem eqv_strs : ∀ a b : List Str, PyData.eqvAll (a.map .str) (b.map .str) = decide (a = b)
  | [], [] => by simp [PyData.eqvAll]
  | [], b :: bs => by simp [PyData.eqvAll]
  | a :: as, [] => by simp [PyData.eqvAll]
  | a :: as, b :: bs => by
    rw [List.map_cons, List.map_cons, PyData.eqvAll, eqv_strs as bs, PyData.eqv]
    by_cases h : a = b
    · subst h; simp
    · simp [h]
theorem eqv_three (F : KnF kns prs) (F' : KnF kns' prs') : PyData.eqv (threeD kns ls lost) (threeD kns' ls' lost') = sameB kns kns' ls ls' lost lost' := by
  have hw : (kns.map wordS = kns'.map wordS) ↔ shapeS kns = shapeS kns' := by
    constructor
    · intro h
      unfold shapeS
      rw [h]
    · intro h
      have := shape_inj F.ne F'.ne F.good F'.good F.few F'.few h
      rw [this]
  unfold threeD wordsOf sameB
  simp only [PyData.eqv, PyData.eqvAll, eqv_strs, eqv_ints2, Bool.and_true]
  rw [decide_eq_decide.mpr hw, decide_eq_decide.mpr oz_inj]
  congr 2
  by_cases h : lost = lost'
  · subst h; simp
  · have : ¬ (lost : Int) = lost' := by omega
    simp [h, this]
theorem sameB_comm : sameB kns kns' ls ls' lost lost' = sameB kns' kns ls' ls lost' lost := by
  unfold sameB
  congr 1
  · rw [decide_eq_decide]; exact eq_comm
  · congr 1
    · rw [decide_eq_decide]; exact eq_comm
    · rw [decide_eq_decide]; exact eq_comm
theorem sameB_self : sameB kns kns ls ls lost lost = true := by simp [sameB]
end Z
end

section -- P35
set_option Elab.async false
set_option linter.all false
set_option maxRecDepth 100000
set_option maxHeartbeats 4000000
set_option autoImplicit false
namespace Z
open PySem PySem.Spec L2 K07
open M7 (Names Cells Kn Kd foundOf strOf knsOf lenOf lostOf headsOf comeOf arr cellKnots)
section
variable {J : Addr → Prop} {σ : St} {w w0 w1 : Wd} {ta tb tc t te : TE} {ts : TA} {K : PySem.W.Frag} {cS cP : Addr}
theorem dps_take {f : Hp} : ∀ {n : Nat} {xs : List V} {ds : List PyData}, DpAll K f xs ds → DpAll K f (xs.take n) (ds.take n)
  | 0, _, _, _ => .nil
  | n + 1, _, _, .nil => .nil
  | n + 1, _, _, .cons h t => .cons h (dps_take t)
theorem dps_len {f : Hp} : ∀ {xs : List V} {ds : List PyData}, DpAll K f xs ds → xs.length = ds.length
  | _, _, .nil => rfl
  | _, _, .cons _ t => by simp [dps_len t]
/-- the first n of a tuple of more -/
theorem ev_slT {n : Nat} {ds : List PyData} (h : Ev J te σ w (Dat K (.tuple ds))) (hn : n < ds.length) : Ev J (tSl (rSlF K) te tNoPart (tPart (tC (.int n)))) σ w (TupD K (ds.take n)) := fun w' e Q q => h w' e _ fun v w1 e1 hv => by
  cases hv with
  | @tup a xs _ h1 h2 =>
    have hl := dps_len h2
    refine ⟨n, rfl, a, xs, rfl, sqT_h w1 h1, fun hh => ?_, fun _ l o ho hl => ?_⟩
    · exfalso
      have := hh.2
      rw [HT.sIx_nat] at this
      omega
    · rw [cut_take]
      exact q (.ref l) (w1.new l _) (e1.trans (Le.new hl)) ⟨l, _, rfl, ⟨o, ho, new_at⟩, dps_mono (Le.new (J := J) hl).ef _ _ (dps_take h2)⟩
/-- all but the last of a tuple -/
theorem sIx_m1 (n d : Nat) : HT.sIx n d (some (-1)) = n - 1 := by
  show (if (-1 : Int) < 0 then ((-1 : Int) + (n : Int)).toNat else min (-1 : Int).toNat n) = _
  rw [if_pos (by decide)]
  omega
theorem cut_init (xs : List V) : cutV xs none (some (-1)) = xs.dropLast := by
  unfold cutV
  rw [HT.sIx_none, sIx_m1, List.drop_zero, List.dropLast_eq_take]
  simp
theorem ev_slInit {ds : List PyData} (h : Ev J te σ w (TupD K ds)) : Ev J (tSl (rSlF K) te tNoPart (tPart (tUn (rU fun i => .int (-i)) (tC (.int 1))))) σ w (TupD K ds.dropLast) := fun w' e Q q => h w' e _ fun v w1 e1 ⟨a, xs, h1, h2, h3⟩ => by
  subst h1
  have hl := dps_len h3
  show tUn (rU fun i => .int (-i)) (tC (.int 1)) σ w1.h fun x H1 => ∃ i, x = .int i ∧ rSlF K (.ref a) none (some i) H1 Q
  refine ev_neg1 (J := J) w1 (e.trans e1) _ fun u w2 e2 hu => ⟨-1, hu, a, xs, rfl, sqT_h w2 (sqT_mono e2.ef h2.sq), fun hh => ?_, fun _ l o ho hl => ?_⟩
  · have hx : xs = [] := by
      have := hh.2
      rw [sIx_m1] at this
      cases xs with
      | nil => rfl
      | cons a b => simp at this
    subst hx
    have hd : ds = [] := by cases ds with
      | nil => rfl
      | cons a b => simp at hl
    subst hd
    exact q (.ref a) w2 (e1.trans e2) ((TupD K []).mono e2.ef ⟨a, [], rfl, h2, h3⟩)
  · rw [cut_init]
    refine q (.ref l) (w2.new l _) ((e1.trans e2).trans (Le.new hl)) ⟨l, _, rfl, ⟨o, ho, new_at⟩, ?_⟩
    rw [List.dropLast_eq_take, List.dropLast_eq_take, dps_len h3]
    exact dps_mono (Le.new (J := J) hl).ef _ _ (dps_take (dps_mono e2.ef _ _ h3))
end
end Z
end

section -- P36
set_option Elab.async false
set_option linter.all false
set_option maxRecDepth 100000
set_option maxHeartbeats 4000000
set_option autoImplicit false
namespace Z
open PySem PySem.Spec L2 K07
open M7 (Names Cells Kn Kd foundOf strOf knsOf lenOf lostOf headsOf comeOf arr cellKnots)
variable {ns ns' : Names} {cs cs' : Cells} {kns kns' : List Kn} {prs prs' : List (Nat × Nat)} {ls ls' : List Nat} {lost lost' : Nat}
/-! ### what law_right tells -/
theorem VC.init (vc : VC cs) : VC cs.dropLast where
  few := by rw [List.length_dropLast]; have := vc.few; omega
  asc := vc.asc.sublist (List.dropLast_sublist cs)
  pos := fun q hq => vc.pos q (List.dropLast_subset cs hq)
theorem lay_cls : ∀ cs : Cells, PyData.canLayAll0 (cs.map clD) = true ∧ PyData.depthAll (cs.map clD) ≤ 1
  | [] => ⟨by simp [PyData.canLayAll0], by simp [PyData.depthAll]⟩
  | q :: cs => by
    have t := lay_cls cs
    constructor
    · rw [List.map_cons, PyData.canLayAll0, t.1]
      simp [clD, PyData.canLay0, PyData.canLayAll0]
    · rw [List.map_cons, PyData.depthAll]
      have h : (clD q).depth = 1 := by simp [clD, PyData.depth, PyData.depthAll]
      rw [h]
      have := t.2
      omega
theorem shaped_cls (cs : Cells) : SeqAt.shaped (.tuple (cs.map clD)) = true := by
  have h := lay_cls cs
  unfold SeqAt.shaped
  rw [show (PyData.tuple (cs.map clD)).canLay0 = PyData.canLayAll0 (cs.map clD) by simp [PyData.canLay0], h.1, show (PyData.tuple (cs.map clD)).depth = PyData.depthAll (cs.map clD) + 1 by simp [PyData.depth]]
  rw [decide_eq_true (by omega : PyData.depthAll (cs.map clD) + 1 ≤ 64)]
  rfl
theorem eqv_cls (cs : Cells) : PyData.eqv (.tuple (cs.map clD)) (.tuple (cs.map clD)) = true := SeqAt.eqv_refl _ (SeqAt.canLay_of_shaped (shaped_cls cs))
theorem lens_few (vc : VC cs) (vn : VN ns) : (lenOf ns cs).length ≤ 100 := by
  have h : (lenOf ns cs).length = (cellKnots (arr cs) (foundOf ns cs)).length := by simp [lenOf, M7.lensOf]
  have := List.length_filter_le (fun k => ((arr cs) k).isSome) (foundOf ns cs)
  have h2 := found_few vc vn
  unfold cellKnots at h
  omega
theorem lens_big (vc : VC cs) : ∀ l ∈ lenOf ns cs, l < 10 ^ 10 := fun l hl => by have := lens_pos hl; have := vc.few; omega
theorem lost_big (vc : VC cs) : lostOf ns cs < 10 ^ 10 := by have := lost_le ns cs; have := vc.few; omega
theorem ok_ptext (vc : VC cs) (vn : VN ns) : OkD 7000 0 (.str (ptext (knsOf ns cs) (lenOf ns cs) (lostOf ns cs))) :=
  OkD.asc (Asc.ptext (knf_of vn vc)) (ptext_len (knf_of vn vc) (lens_few vc vn) (lens_big vc) (lost_big vc))
theorem ok_lens (vc : VC cs) (vn : VN ns) : OkD 4200 1 (.tuple (intD (oz (lenOf ns cs)))) := (OkD.tuple (ok_ints (m := 100) (fun x hx => by
  obtain ⟨l, hl, rfl⟩ := List.mem_map.mp hx
  have := lens_pos hl
  have := vc.few
  omega) (by rw [List.length_map]; exact lens_few vc vn))).mono (by omega) (by omega)
def dueD (ns : Names) (cs : Cells) : List PyData := [.str (shapeS (knsOf ns cs)), .tuple (intD (oz (lenOf ns cs))), .int (lostOf ns cs), .int cs.length, .str (ltr (letsOf ns)), .str (ptext (knsOf ns cs) (lenOf ns cs) (lostOf ns cs))]
theorem ok_due (vc : VC cs) (vn : VN ns) : OkD 20000 2 (.list (dueD ns cs)) := by
  have h1 := lost_le ns cs
  have h2 := vc.few
  have h3 := vn.four
  refine (OkD.list (OkA.cons (OkD.asc (Asc.shape (knf_of vn vc)) (shape_len (knf_of vn vc))) (OkA.cons (ok_lens vc vn) (OkA.cons (ok_int (i := (lostOf ns cs : Int)) (by omega)) (OkA.cons (ok_int (i := (cs.length : Int)) (by omega)) (OkA.cons (OkD.str (n := 4) (fun c hc => ?_) ?_) (OkA.cons (ok_ptext vc vn) OkA.nil))))))).mono (by omega) (by omega)
  · have hc : c ∈ letsOf ns := by simpa [ltr] using hc
    obtain ⟨q, hq, rfl⟩ := List.mem_map.mp hc
    have := vn.let_ q hq
    have : (16 : Nat) ^ 8 = 4294967296 := by decide
    omega
  · rw [ltr_len]; unfold letsOf; rw [List.length_map]; exact h3
def tidD (ns : Names) (cs : Cells) : List PyData := [.tuple ((tN ns cs).map nmD), .tuple ((tC7 ns cs).map clD), .str (ptext (knsOf ns cs) (lenOf ns cs) (lostOf ns cs))]
theorem ok_tid (vc : VC cs) (vn : VN ns) : OkD 30000 3 (.list (tidD ns cs)) :=
  (OkD.list (OkA.cons (ok_nms (VN_t vn vc)) (OkA.cons (ok_cls (VC_t vn vc)) (OkA.cons (ok_ptext vc vn) OkA.nil)))).mono (by omega) (by omega)
def ansD (b : Bool) : List PyData := [.bool b, .bool b, .bool b, .bool true]
theorem ok_ans (b : Bool) : OkD 10 1 (.list (ansD b)) := (OkD.list (OkA.cons (OkD.bool b) (OkA.cons (OkD.bool b) (OkA.cons (OkD.bool b) (OkA.cons (OkD.bool true) OkA.nil))))).mono (by omega) (by omega)
section
variable {J : Addr → Prop} {σ : St} {w w0 w1 : Wd} {ta tb tc t te : TE} {ts : TA} {K : PySem.W.Frag} {cS cP : Addr} {mg : PySem.Str → Option Value} {R S Ra Rb : Rp} {Rs : List Rp} {sp : Sp} {i1 i2 i3 i4 i5 : Nat} {lets : List Nat}
theorem g_five {R1 R2 R3 R4 R5 : Rp} {v : V} {Q : St → Hp → Prop} (h : (TupR K [R1, R2, R3, R4, R5]).r w.f v) (q : ∀ a b c d e, R1.r w.f a → R2.r w.f b → R3.r w.f c → R4.r w.f d → R5.r w.f e → Q (((((σ.set i1 (some a)).set i2 (some b)).set i3 (some c)).set i4 (some d)).set i5 (some e)) w.h) :
    gTup K 5 (gCons (gName i1) (gCons (gName i2) (gCons (gName i3) (gCons (gName i4) (gCons (gName i5) gNil))))) v σ w.h Q := by
  obtain ⟨a, xs, rfl, h1, h2⟩ := h
  obtain ⟨x1, xs, rfl, r1, h2⟩ := h2.cons_inv
  obtain ⟨x2, xs, rfl, r2, h2⟩ := h2.cons_inv
  obtain ⟨x3, xs, rfl, r3, h2⟩ := h2.cons_inv
  obtain ⟨x4, xs, rfl, r4, h2⟩ := h2.cons_inv
  obtain ⟨x5, xs, rfl, r5, h2⟩ := h2.cons_inv
  cases h2.nil_inv
  exact ⟨a, _, rfl, sqT_h w h1, rfl, x1, _, rfl, x2, _, rfl, x3, _, rfl, x4, _, rfl, x5, _, rfl, rfl, q x1 x2 x3 x4 x5 r1 r2 r3 r4 r5⟩
theorem Pu.imp (h : Pu J sp w Rs R) (k : ∀ f v, R.r f v → S.r f v) : Pu J sp w Rs S := fun vs w' e a Q q => h vs w' e a Q fun v w2 e2 r => q v w2 e2 (k _ v r)
theorem ev_lsD {ds : List PyData} (h : EvA J ts σ w (ds.map (Dat K))) (hl : ds.length ≤ 1000) : Ev J (tLst ts) σ w (Dat K (.list ds)) := ev_lstD (ev_lst h (by rw [List.length_map]; exact hl))
theorem ev_tpD {ds : List PyData} (h : EvA J ts σ w (ds.map (Dat K))) (hl : ds.length ≤ 1000) : Ev J (tTup ts) σ w (Dat K (.tuple ds)) := ev_tupD (ev_tup h (by rw [List.length_map]; exact hl))
theorem ev_TD {ds : List PyData} (h : Ev J t σ w (TupD K ds)) : Ev J t σ w (Dat K (.tuple ds)) := h.imp fun _ _ _ r => TupD.dat r
theorem ev_Bd {b : Bool} (h : Ev J t σ w (RB b)) : Ev J t σ w (Dat K (.bool b)) := h.imp fun _ _ _ r => dat_bl.mpr r
abbrev tRp (K : PySem.W.Frag) (t : TE) : TE := tCB (rReprD K) (tCons t tNil)
theorem et_neS {a b : PySem.Str} (ha : Ev J ta σ w (RS a)) (hb : Ev J tb σ w (RS b)) (h : a = b) : EvB J (tTest (tOp rNe ta tb)) σ w false := et_test (ev_ne ha hb rfl (by subst h; simp))
/-- the knots and the stretches -/
theorem ev_ks (T : Txt K mg cS cP) (vc : VC cs) (vn : VN ns) (hm : Ev J t σ w (StoR K cS ns cs)) : Ev J (tRp K (tLst (tCons (tCl (p_knots_of K cS cP) (tCons t tNil)) (tCons (tCl (p_stretches_of K cS cP) (tCons t tNil)) tNil)))) σ w (RS (PyData.shown (.list [.tuple (intD (foundOf ns cs)), .tuple (strsD ns cs)]))) :=
  ev_repr (ev_lsD (ds := [.tuple (intD (foundOf ns cs)), .tuple (strsD ns cs)]) (ea_cons (ev_TD (ev_cl (ea_cons hm ea_nil) (pu_knots_of T vc vn).pu)) (ea_cons (ev_TD (ev_cl (ea_cons hm ea_nil) (pu_stretches_of T vc vn).pu)) ea_nil)) (by simp)) (ok_ks vc vn) (by decide) (by decide)
theorem ev_ksK (T : Txt K mg cS cP) (vc : VC cs) (vn : VN ns) (hm : Ev J t σ w (StoR K cS ns cs)) : Ev J (tRp K (tLst (tCons (tKw 1 false (p_knots_of K cS cP) (tCons t tNil)) (tCons (tKw 1 false (p_stretches_of K cS cP) (tCons t tNil)) tNil)))) σ w (RS (PyData.shown (.list [.tuple (intD (foundOf ns cs)), .tuple (strsD ns cs)]))) :=
  ev_repr (ev_lsD (ds := [.tuple (intD (foundOf ns cs)), .tuple (strsD ns cs)]) (ea_cons (ev_TD (ev_kw (ea_cons hm ea_nil) rfl (pu_knots_of T vc vn).pu)) (ea_cons (ev_TD (ev_kw (ea_cons hm ea_nil) rfl (pu_stretches_of T vc vn).pu)) ea_nil)) (by simp)) (ok_ks vc vn) (by decide) (by decide)
theorem ev_ksL (vc : VC cs) (vn : VN ns) (hj : ∀ D, w.h D = none → ¬ J D) (hσ : ∀ x, ((wipe σ [20]).set 20 (some x))[20]? = some (some x)) (hk : Ev J tb σ w (Dat K (.list (intD (foundOf ns cs))))) (hs : Ev J ta σ w (Dat K (.list (strsL ns cs)))) :
    Ev J (tRp K (tLst (tCons (tCB (rTupF K) (tCons tb tNil)) (tCons (tCB (rTupF K) (tCons (tLc (iList K ta) (gName 20) tYes (tCB (rTupF K) (tCons (tVar 20) tNil)) [20]) tNil)) tNil)))) σ w (RS (PyData.shown (.list [.tuple (intD (foundOf ns cs)), .tuple (strsD ns cs)]))) := by
  have hl : (cellKnots (arr cs) (foundOf ns cs)).length ≤ 10000 := by
    have := List.length_filter_le (fun k => ((arr cs) k).isSome) (foundOf ns cs)
    have := found_few vc vn
    unfold cellKnots
    omega
  have h0 : Ev J ta σ w (LstR K ((cellKnots (arr cs) (foundOf ns cs)).map fun k => Dat K (.list (intD (strOf ns cs k).1)))) := (ev_lstR hs).of (by unfold strsL; rw [List.map_map]; rfl)
  have h1 := ev_lcAll (te := tCB (rTupF K) (tCons (tVar 20) tNil)) (i := 20) (E := fun k => Dat K (.tuple (intD (strOf ns cs k).1))) h0 hl (fun k _ w1 e1 x hx => ev_TD (ev_tupF (ev_var (v := x) (hσ x) hx))) hj
  have h2 : Ev J (tLc (iList K ta) (gName 20) tYes (tCB (rTupF K) (tCons (tVar 20) tNil)) [20]) σ w (Dat K (.list (strsD ns cs))) := ev_lstD (h1.of (by unfold strsD; rw [List.map_map]; rfl))
  exact ev_repr (ev_lsD (ds := [.tuple (intD (foundOf ns cs)), .tuple (strsD ns cs)]) (ea_cons (ev_TD (ev_tupF hk)) (ea_cons (ev_TD (ev_tupF h2)) ea_nil)) (by simp)) (ok_ks vc vn) (by decide) (by decide)
/-- what the plan tells -/
theorem ev_told (T : Txt K mg cS cP) (vc : VC cs) (vn : VN ns) (hm : Ev J t σ w (PlanR K cP ns cs)) : Ev J (tRp K (tLst (tCons (tFld K t "shape") (tCons (tFld K t "lengths") (tCons (tFld K t "lost") (tCons (tProp cP (p_Plan_size K cS cP) [] E0 t) (tCons (tFld K t "letters") (tCons (tProp cP (p_Plan_text K cS cP) [] E0 t) tNil)))))))) σ w (RS (PyData.shown (.list (dueD ns cs)))) := by
  have hm' : Ev J t σ w (PlaR K cP (knsOf ns cs) (lenOf ns cs) (lostOf ns cs) (letsOf ns)) := hm
  have hsz : (oz (lenOf ns cs)).sum + (lostOf ns cs : Int) = (cs.length : Int) := by
    rw [oz_sum]
    have := sum_lost ns cs
    omega
  exact ev_repr (ev_lsD (ds := dueD ns cs) (ea_cons (ev_Sd (ev_pshape T hm')) (ea_cons (ev_TD (ev_plens T hm')) (ea_cons (ev_Id (ev_plost T hm')) (ea_cons (ev_Id ((ev_size T hm').of (by rw [hsz]))) (ea_cons (ev_Sd (ev_plets T hm')) (ea_cons (ev_Sd (ev_ptext T (knf_of vn vc) (lens_few vc vn) (lens_big vc) (lost_big vc) hm')) ea_nil)))))) (by simp [dueD])) (ok_due vc vn) (by decide) (by decide)
theorem ev_due (vc : VC cs) (vn : VN ns) {zs : List Nat} (hz : zs = letsOf ns) (h1 : Ev J (tVar 1) σ w (letR K zs)) (h3 : Ev J (tVar 3) σ w (TupD K (cs.map clD))) (h5 : Ev J (tVar 5) σ w (Dat K (wordsD ns cs))) (h6 : Ev J (tVar 6) σ w (Dat K (.list (intD (oz (lenOf ns cs)))))) (h7 : Ev J (tVar 7) σ w (Dat K (.int (lostOf ns cs)))) :
    Ev J (tLst (tCons (tM1 (rJoin K) (tC (.str " ")) (tVar 5)) (tCons (tCB (rTupF K) (tCons (tVar 6) tNil)) (tCons (tVar 7) (tCons (tCB (rLenQ K) (tCons (tVar 3) tNil)) (tCons (tM1 (rJoin K) (tC (.str "")) (tVar 1)) (tCons (tCl (p_law_plan_text K cS cP) (tCons (tVar 5) (tCons (tVar 6) (tCons (tVar 7) tNil)))) tNil))))))) σ w (Dat K (.list (dueD ns cs))) := by
  subst hz
  have F := knf_of vn vc
  have h3' : Ev J (tVar 3) σ w (TupR K (cs.map (clR K))) := h3.imp fun _ _ _ => cls_of
  refine ev_lsD (ds := dueD ns cs) (ea_cons (ev_Sd (ev_join (a := " ") ev_cv h5 ?_)) (ea_cons (ev_TD (ev_tupF h6)) (ea_cons h7 (ea_cons (ev_Id ((ev_lenT h3').of (by rw [List.length_map]))) (ea_cons (ev_Sd ((ev_joinR (a := "") ev_cv h1 ?_).of (by rw [join_chr]))) (ea_cons (ev_Sd (ev_cl (ea_cons h5 (ea_cons h6 (ea_cons (ev_dI h7) ea_nil))) (pu_plan_text F (lens_few vc vn) (lens_big vc) (lost_big vc)).pu)) ea_nil)))))) (by simp [dueD])
  · exact shape_fits F.few F.few F.good
  · refine lets_sum _ ?_
    unfold letsOf
    rw [List.length_map]
    have := vn.four
    omega
end
end Z
end

section -- P37
set_option Elab.async false
set_option linter.all false
set_option maxRecDepth 100000
set_option maxHeartbeats 4000000
set_option autoImplicit false
namespace Z
open PySem PySem.Spec L2 K07
open M7 (Names Cells Kn Kd foundOf strOf knsOf lenOf lostOf headsOf comeOf arr cellKnots cellsGo)
variable {ns ns' : Names} {cs cs' : Cells} {kns kns' : List Kn} {prs prs' : List (Nat × Nat)} {ls ls' : List Nat} {lost lost' : Nat}
section
variable {j : Addr} {J : Addr → Prop} {σ : St} {w w0 w1 : Wd} {ta tb tc t te : TE} {ts : TA} {K : PySem.W.Frag} {cS cP : Addr} {mg : PySem.Str → Option Value} {R S Ra Rb : Rp} {Rs : List Rp} {sp : Sp} {i1 i2 i3 i4 i5 : Nat} {lets : List Nat}
theorem ev_canon (vc : VC cs) (vn : VN ns) (h5 : Ev J (tVar 5) σ w (Dat K (wordsD ns cs))) (h6 : Ev J (tVar 6) σ w (Dat K (.list (intD (oz (lenOf ns cs)))))) (h7 : Ev J (tVar 7) σ w (Dat K (.int (lostOf ns cs)))) :
    Ev J (tCl (p_law_canon K cS cP) (tCons (tVar 5) (tCons (tVar 6) (tCons (tVar 7) tNil)))) σ w (Dat K (.tuple [.tuple ((tN ns cs).map nmD), .tuple ((tC7 ns cs).map clD)])) := by
  have hc := vc.few
  have hlo := lost_le ns cs
  have hsl := sum_lost ns cs
  have hcc := cc_eq (ns := ns) vc
  have hlen := tC_len ns cs
  have hasc := (VC_t vn vc).asc
  rw [← hcc] at hlen hasc
  unfold ccOf at hlen hasc
  have h1 := pu_canon (K := K) (cS := cS) (cP := cP) (ls := lenOf ns cs) (lost := lostOf ns cs) (knf_of vn vc) (lens_many ns cs) (fun l hl => by have := lens_pos hl; omega) (by omega)
    (List.pairwise_append.mp hasc).1 (by
      rw [List.length_append] at hlen
      have e : (lostC (cellsGo (stOf (knsOf ns cs) (lenOf ns cs) (lostOf ns cs)) (knsOf ns cs) (stOf (knsOf ns cs) (lenOf ns cs) (lostOf ns cs)) (lenOf ns cs)).length (lostOf ns cs)).length = lostOf ns cs := by simp [lostC]
      omega) (by omega)
  rw [nn_eq vn vc, hcc] at h1
  exact ev_cl (ea_cons h5 (ea_cons h6 (ea_cons (ev_dI h7) ea_nil))) h1.pu
theorem ev_tidy (T : Txt K mg cS cP) (vc : VC cs) (vn : VN ns) (hm : Ev J t σ w (StoR K cS ns cs)) : Ev J (tCl (p_tidy K cS cP) (tCons t tNil)) σ w (StoR K cS (tN ns cs) (tC7 ns cs)) := ev_cl (ea_cons hm ea_nil) (pu_tidy T vc vn).pu
theorem ev_tid (T : Txt K mg cS cP) (vc : VC cs) (vn : VN ns) (hm : Ev J t σ w (StoR K cS ns cs)) : Ev J (tRp K (tLst (tCons (tFld K (tCl (p_tidy K cS cP) (tCons t tNil)) "names") (tCons (tFld K (tCl (p_tidy K cS cP) (tCons t tNil)) "cells") (tCons (tProp cP (p_Plan_text K cS cP) [] E0 (tKw 1 false (p_plan_of K cS cP) (tCons (tKw 1 false (p_tidy K cS cP) (tCons t tNil)) tNil))) tNil))))) σ w (RS (PyData.shown (.list (tidD ns cs)))) := by
  have vnt := VN_t vn vc
  have vct := VC_t vn vc
  have hp : Ev J (tKw 1 false (p_plan_of K cS cP) (tCons (tKw 1 false (p_tidy K cS cP) (tCons t tNil)) tNil)) σ w (PlanR K cP (tN ns cs) (tC7 ns cs)) := ev_kw (ea_cons (ev_kw (ea_cons hm ea_nil) rfl (pu_tidy T vc vn).pu) ea_nil) rfl (pu_plan_of T vct vnt).pu
  have hp' : Ev J (tKw 1 false (p_plan_of K cS cP) (tCons (tKw 1 false (p_tidy K cS cP) (tCons t tNil)) tNil)) σ w (PlaR K cP (knsOf ns cs) (lenOf ns cs) (lostOf ns cs) (letsOf ns)) := by
    have e := plan_t (ns := ns) vc
    rw [← e.1, ← e.2.1, ← e.2.2, ← lets_t ns cs]
    exact hp
  exact ev_repr (ev_lsD (ds := tidD ns cs) (ea_cons (ev_TD (ev_names T (ev_tidy T vc vn hm))) (ea_cons (ev_TD (ev_cells T (ev_tidy T vc vn hm))) (ea_cons (ev_Sd (ev_ptext T (knf_of vn vc) (lens_few vc vn) (lens_big vc) (lost_big vc) hp')) ea_nil))) (by simp [tidD])) (ok_tid vc vn) (by decide) (by decide)
theorem ev_tidL (vc : VC cs) (vn : VN ns) (h11 : Ev J (tVar 11) σ w (Dat K (.list (dueD ns cs)))) (h12 : Ev J (tVar 12) σ w (Dat K (.tuple ((tN ns cs).map nmD)))) (h13 : Ev J (tVar 13) σ w (Dat K (.tuple ((tC7 ns cs).map clD)))) : Ev J (tRp K (tLst (tCons (tVar 12) (tCons (tVar 13) (tCons (tOp (rIxL K) (tVar 11) (tC (.int 5))) tNil))))) σ w (RS (PyData.shown (.list (tidD ns cs)))) :=
  ev_repr (ev_lsD (ds := tidD ns cs) (ea_cons h12 (ea_cons h13 (ea_cons (ev_ixL (n := 5) (Rs := (dueD ns cs).map (Dat K)) (ev_lstR h11) ev_cv rfl) ea_nil))) (by simp [tidD])) (ok_tid vc vn) (by decide) (by decide)
/-- are both plans the same: as the law's own plans tell -/
theorem ev_same (T : Txt K mg cS cP) (vc : VC cs) (vn : VN ns) (vc' : VC cs') (vn' : VN ns') (hf : Ev J t σ w (StoR K cS ns' cs')) (h5 : Ev J (tVar 5) σ w (Dat K (wordsD ns cs))) (h6 : Ev J (tVar 6) σ w (Dat K (.list (intD (oz (lenOf ns cs)))))) (h7 : Ev J (tVar 7) σ w (Dat K (.int (lostOf ns cs)))) :
    Ev J (tOp (rEqD K) (tSl (rSlF K) (tCl (p_law_plan K cS cP) (tCons (tFld K t "names") (tCons (tFld K t "cells") tNil))) tNoPart (tPart (tC (.int 3)))) (tTup (tCons (tVar 5) (tCons (tVar 6) (tCons (tVar 7) tNil))))) σ w (RB (sameP ns' cs' ns cs)) := by
  have h1 : Ev J (tSl (rSlF K) (tCl (p_law_plan K cS cP) (tCons (tFld K t "names") (tCons (tFld K t "cells") tNil))) tNoPart (tPart (tC (.int 3)))) σ w (Dat K (threeD (knsOf ns' cs') (lenOf ns' cs') (lostOf ns' cs'))) :=
    ev_TD (ev_slT (n := 3) (ds := lawPs ns' cs') (ev_cl (ea_cons (ev_names T hf) (ea_cons (ev_cells T hf) ea_nil)) (pu_law_plan T vc' vn').pu) (by simp [lawPs]))
  have h2 : Ev J (tTup (tCons (tVar 5) (tCons (tVar 6) (tCons (tVar 7) tNil)))) σ w (Dat K (threeD (knsOf ns cs) (lenOf ns cs) (lostOf ns cs))) := ev_tpD (ds := [wordsD ns cs, .list (intD (oz (lenOf ns cs))), .int (lostOf ns cs)]) (ea_cons h5 (ea_cons h6 (ea_cons h7 ea_nil))) (by simp)
  exact ev_eqD h1 h2 (shaped_three (knf_of vn' vc')) (shaped_three (knf_of vn vc)) (eqv_three (knf_of vn' vc') (knf_of vn vc))
theorem sameP_comm : sameP ns cs ns' cs' = sameP ns' cs' ns cs := sameB_comm
theorem same_tidy (vc : VC cs) : sameP ns cs (tN ns cs) (tC7 ns cs) = true := by
  have e := plan_t (ns := ns) vc
  unfold sameP
  rw [e.1, e.2.1, e.2.2]
  exact sameB_self
theorem ev_ans (T : Txt K mg cS cP) (vc : VC cs) (vn : VN ns) (vc' : VC cs') (vn' : VN ns') (hm : Ev J ta σ w (StoR K cS ns cs)) (hf : Ev J tb σ w (StoR K cS ns' cs')) (hp : Ev J tc σ w (PlanR K cP ns cs)) :
    Ev J (tLst (tCons (tCl (p_are_alike K cS cP) (tCons ta (tCons tb tNil))) (tCons (tCl (p_are_alike K cS cP) (tCons tb (tCons ta tNil))) (tCons (tOp (rPeq cP (p_Plan_eq K cS cP)) (tCl (p_plan_of K cS cP) (tCons tb tNil)) tc) (tCons (tKw 2 true (p_are_alike K cS cP) (tCons (tCl (p_tidy K cS cP) (tCons ta tNil)) (tCons ta tNil))) tNil))))) σ w (Dat K (.list (ansD (sameP ns' cs' ns cs)))) :=
  ev_lsD (ds := ansD (sameP ns' cs' ns cs)) (ea_cons (ev_Bd ((ev_cl (ea_cons hm (ea_cons hf ea_nil)) (pu_alike T vc vn vc' vn').pu).of (by rw [sameP_comm])))
    (ea_cons (ev_Bd (ev_cl (ea_cons hf (ea_cons hm ea_nil)) (pu_alike T vc' vn' vc vn).pu))
    (ea_cons (ev_Bd (ev_peq T (ev_cl (ea_cons hf ea_nil) (pu_plan_of T vc' vn').pu) hp))
    (ea_cons (ev_Bd ((ev_kw2 (ea_cons (ev_tidy T vc vn hm) (ea_cons hm ea_nil)) (pu_alike T vc vn (VC_t vn vc) (VN_t vn vc)).pu).of (by rw [same_tidy vc]))) ea_nil)))) (by simp [ansD])
theorem ev_end (T : Txt K mg cS cP) {b : Bool} (hm : Ev J (tVar 4) σ w (StoR K cS ns cs)) (h3 : Ev J (tVar 3) σ w (TupD K (cs.map clD))) (h18 : Ev J (tVar 18) σ w (RB b)) (h19 : Ev J (tVar 19) σ w (Dat K (.list (ansD b)))) :
    Ev J (tAndV (tOp rEq (tCB (rReprD K) (tCons (tVar 19) tNil)) (tCB (rReprD K) (tCons (tLst (tCons (tVar 18) (tCons (tVar 18) (tCons (tVar 18) (tCons (tC (.bl true)) tNil))))) tNil))) (tOp (rEqD K) (tFld K (tVar 4) "cells") (tVar 3))) σ w (RB true) := by
  have h := ev_Bd (K := K) h18
  have h2 := ev_repr (ev_lsD (ds := ansD b) (ea_cons h (ea_cons h (ea_cons h (ea_cons (ev_Bd (ev_cv (v := .bl true))) ea_nil)))) (by simp [ansD])) (ok_ans b) (by decide) (by decide)
  exact ev_andV (a := true) (b := true) (ev_eq (ev_repr h19 (ok_ans b) (by decide) (by decide)) h2 rfl (decide_eq_true rfl)) (fun _ => ev_eqD (ev_TD (ev_cells T hm)) (ev_TD h3) (shaped_cls cs) (shaped_cls cs) (eqv_cls cs)) rfl
/-! ### draws -/
theorem ev_1take (hJ : Jug w j) (hv : σ[0]? = some (some (.ref j))) : Ev (Jj j) (tOp rAddI (tC (.int 1)) (tCl (p_law_take K cS cP) (tCons (tVar 0) (tCons (tC (.int 4)) tNil)))) σ w (Some Nat (fun n => 1 ≤ n ∧ n ≤ 4) fun n => RI n) :=
  ev_op (ev_cv (v := .int 1)) (ev_takeB (K := K) (cS := cS) (cP := cP) (c := 0) hJ (n := 4) (by decide) (by decide) hv) fun x y w6 e6 hx ⟨k, ⟨hk0, hk1⟩, hy⟩ Q2 q2 => by
    cases hx
    cases hy
    exact ⟨1, k, rfl, rfl, q2 _ w6 .rfl ⟨(1 + k).toNat, by omega, by show V.int (1 + k) = V.int _; congr 1; omega⟩⟩
theorem ev_lets (hJ : Jug w j) (hv : σ[0]? = some (some (.ref j))) (h : Ev (Jj j) t σ w (Some Nat (fun n => 1 ≤ n ∧ n ≤ 4) fun n => RI n)) : Ev (Jj j) (tCl (p_law_letters K cS cP) (tCons (tVar 0) (tCons t tNil))) σ w (Some (List Nat) (fun zs => ∃ n, (1 ≤ n ∧ n ≤ 4) ∧ Lets n zs) (letR K)) :=
  ev_cl (ea_cons (ev_is hv) (ea_cons h ea_nil)) (pu_some fun n hn => (pj_letters hJ hn.2).imp fun _ _ ⟨zs, h1, h2⟩ => ⟨zs, ⟨n, hn, h1⟩, h2⟩)
theorem pu_some3 {α : Type} {P : α → Prop} {A A2 : Rp} {B : α → Rp} (h : ∀ a, P a → Pu J sp w [A, A2, B a] R) : Pu J sp w [A, A2, Some α P B] R := fun vs w' e a Q q => by
  obtain ⟨v, ws, rfl, h1, a⟩ := a.cons_inv
  obtain ⟨v2, ws, rfl, h3, a⟩ := a.cons_inv
  obtain ⟨u, ws, rfl, ⟨x, hp, h2⟩, a⟩ := a.cons_inv
  cases a.nil_inv
  exact h x hp [v, v2, u] w' e ⟨h1, h3, h2, trivial⟩ Q q
theorem DrS.mono {zs : List Nat} {n m : Nat} (h : DrS zs n ns cs) (hm : n ≤ m) : DrS zs m ns cs := ⟨h.ns_, h.pl, Nat.le_trans h.len hm, h.asc, h.pos⟩
theorem ev_drw (hJ : Jug w j) (hv : σ[0]? = some (some (.ref j))) {zs : List Nat} (hz : zs.length ≤ 4) (h1 : Ev (Jj j) ta σ w (letR K zs)) (h2 : Ev (Jj j) tb σ w (Some Int (fun k => 0 ≤ k ∧ k ≤ 12) RI)) :
    Ev (Jj j) (tCl (p_law_drawn_store K cS cP) (tCons (tVar 0) (tCons ta (tCons tb tNil)))) σ w (Some (Names × Cells) (fun q => DrS zs 12 q.1 q.2) fun q => TupR K [TupD K (q.1.map nmD), TupD K (q.2.map clD)]) :=
  ev_cl (ea_cons (ev_is hv) (ea_cons h1 (ea_cons h2 ea_nil))) (pu_some3 fun k hk => by
    obtain ⟨n, rfl⟩ := Int.eq_ofNat_of_zero_le hk.1
    have hn : n ≤ 12 := by omega
    exact (pj_drawn_store hJ hz hn).imp fun _ _ ⟨q, h1, h2⟩ => ⟨q, h1.mono hn, h2⟩)
end
end Z
end

section -- P38
set_option Elab.async false
set_option linter.all false
set_option maxRecDepth 100000
set_option maxHeartbeats 4000000
set_option autoImplicit false
namespace Z
open PySem PySem.Spec L2 K07
open M7 (Names Cells Kn Kd foundOf strOf knsOf lenOf lostOf headsOf comeOf arr cellKnots)
section
variable {j : Addr} {J : Addr → Prop} {σ : St} {w w0 w1 : Wd} {ta tb tc t te : TE} {ts : TA} {K : PySem.W.Frag} {cS cP : Addr} {mg : PySem.Str → Option Value} {R S Ra Rb : Rp} {Rs : List Rp} {sp : Sp}
theorem pj_right (T : Txt K mg cS cP) (hJ : Jug w j) : Pu (Jj j) (p_law_right K cS cP) w [Is (.ref j)] (RB true) := fun vs w' e a Q q => by
  obtain ⟨v, ws, rfl, h1, a⟩ := a.cons_inv
  cases a.nil_inv
  cases h1
  have hJ' := hJ.le e
  refine ⟨rfl, ?_⟩
  show tSeq _ _ _ [some (.ref j), none, none, none, none, none, none, none, none, none, none, none, none, none, none, none, none, none, none, none, none] w'.h
  -- letters, names, cells
  refine sq_asg (J := Jj j) (ev_lets (K := K) (cS := cS) (cP := cP) hJ' rfl (ev_1take (K := K) (cS := cS) (cP := cP) hJ' rfl)) fun v1 w1 e1 ⟨zs, ⟨n, hn, hz⟩, r1⟩ => ?_
  have hJ1 := hJ'.le e1
  have hzl : zs.length ≤ 4 := by rw [hz.2.1]; exact hn.2
  show tSeq _ _ _ [some (.ref j), some v1, none, none, none, none, none, none, none, none, none, none, none, none, none, none, none, none, none, none, none] w1.h
  refine sq_asgG (J := Jj j) (ev_drw (K := K) (cS := cS) (cP := cP) hJ1 rfl hzl (ev_var (i := 1) (v := v1) rfl r1) ((ev_oneI (K := K) (cS := cS) (cP := cP) hJ1 (l := [4, 7, 12]) (by simp) (by simp) rfl (ev_lst (K := K) (ea_cons ev_cv (ea_cons ev_cv (ea_cons ev_cv ea_nil))) (by simp))).imp fun _ _ _ ⟨k, hk, r⟩ => ⟨k, by simp at hk; omega, r⟩)) fun vp w2 e2 ⟨⟨ns, cs⟩, hD, hp⟩ => g_two hp fun v2 v3 r2 r3 => ?_
  have hJ2 := hJ1.le e2
  have vn : VN ns := hD.vn hz hn.1 hn.2
  have vc : VC cs := hD.vc (by decide)
  have hzs : zs = letsOf ns := hD.ns_.symm
  have r1 := Rp.mono _ e2.ef r1
  show tSeq _ _ _ [some (.ref j), some v1, some v2, some v3, none, none, none, none, none, none, none, none, none, none, none, none, none, none, none, none, none] w2.h
  -- the store
  refine sq_asg (J := Jj j) (ev_sto T vn vc (ea_cons (ev_var (i := 2) (v := v2) rfl r2) (ea_cons (ev_var (i := 3) (v := v3) rfl r3) ea_nil))) fun v4 w3 e3 r4 => ?_
  have hJ3 := hJ2.le e3
  have r1 := Rp.mono _ e3.ef r1
  have r2 := Rp.mono _ e3.ef r2
  have r3 := Rp.mono _ e3.ef r3
  show tSeq _ _ _ [some (.ref j), some v1, some v2, some v3, some v4, none, none, none, none, none, none, none, none, none, none, none, none, none, none, none, none] w3.h
  -- the law's own plan
  refine sq_asgG (J := Jj j) (ev_tupR (ev_cl (ea_cons (ev_var (i := 2) (v := v2) rfl r2) (ea_cons (ev_var (i := 3) (v := v3) rfl r3) ea_nil)) (pu_law_plan T vc vn).pu)) fun vp w4 e4 hp => g_five hp fun v5 v6 v7 v8 v9 r5 r6 r7 r8 r9 => ?_
  have hJ4 := hJ3.le e4
  have r1 := Rp.mono _ e4.ef r1
  have r2 := Rp.mono _ e4.ef r2
  have r3 := Rp.mono _ e4.ef r3
  have r4 := Rp.mono _ e4.ef r4
  show tSeq _ _ _ [some (.ref j), some v1, some v2, some v3, some v4, some v5, some v6, some v7, some v8, some v9, none, none, none, none, none, none, none, none, none, none, none] w4.h
  -- knots and stretches
  refine st_skip (J := Jj j) (et_neS (ev_ks T vc vn (ev_var (i := 4) (v := v4) rfl r4)) (ev_ksL vc vn (jug_ne hJ4) (fun x => rfl) (ev_var (i := 9) (v := v9) rfl r9) (ev_var (i := 8) (v := v8) rfl r8)) rfl) fun w5 e5 => ?_
  have r1 := Rp.mono _ e5.ef r1
  have r2 := Rp.mono _ e5.ef r2
  have r3 := Rp.mono _ e5.ef r3
  have r4 := Rp.mono _ e5.ef r4
  have r5 := Rp.mono _ e5.ef r5
  have r6 := Rp.mono _ e5.ef r6
  have r7 := Rp.mono _ e5.ef r7
  refine st_skip (J := Jj j) (et_neS (ev_ksK T vc vn (ev_var (i := 4) (v := v4) rfl r4)) (ev_ks T vc vn (ev_var (i := 4) (v := v4) rfl r4)) rfl) fun w6 e6 => ?_
  have r1 := Rp.mono _ e6.ef r1
  have r2 := Rp.mono _ e6.ef r2
  have r3 := Rp.mono _ e6.ef r3
  have r4 := Rp.mono _ e6.ef r4
  have r5 := Rp.mono _ e6.ef r5
  have r6 := Rp.mono _ e6.ef r6
  have r7 := Rp.mono _ e6.ef r7
  -- the plan
  refine sq_asg (J := Jj j) (ev_cl (ea_cons (ev_var (i := 4) (v := v4) rfl r4) ea_nil) (pu_plan_of (cP := cP) T vc vn).pu) fun v10 w7 e7 r10 => ?_
  have r1 := Rp.mono _ e7.ef r1
  have r2 := Rp.mono _ e7.ef r2
  have r3 := Rp.mono _ e7.ef r3
  have r4 := Rp.mono _ e7.ef r4
  have r5 := Rp.mono _ e7.ef r5
  have r6 := Rp.mono _ e7.ef r6
  have r7 := Rp.mono _ e7.ef r7
  show tSeq _ _ _ [some (.ref j), some v1, some v2, some v3, some v4, some v5, some v6, some v7, some v8, some v9, some v10, none, none, none, none, none, none, none, none, none, none] w7.h
  refine sq_asg (J := Jj j) (ev_due vc vn hzs (ev_var (i := 1) (v := v1) rfl r1) (ev_var (i := 3) (v := v3) rfl r3) (ev_var (i := 5) (v := v5) rfl r5) (ev_var (i := 6) (v := v6) rfl r6) (ev_var (i := 7) (v := v7) rfl r7)) fun v11 w8 e8 r11 => ?_
  have r1 := Rp.mono _ e8.ef r1
  have r2 := Rp.mono _ e8.ef r2
  have r3 := Rp.mono _ e8.ef r3
  have r4 := Rp.mono _ e8.ef r4
  have r5 := Rp.mono _ e8.ef r5
  have r6 := Rp.mono _ e8.ef r6
  have r7 := Rp.mono _ e8.ef r7
  have r10 := Rp.mono _ e8.ef r10
  show tSeq _ _ _ [some (.ref j), some v1, some v2, some v3, some v4, some v5, some v6, some v7, some v8, some v9, some v10, some v11, none, none, none, none, none, none, none, none, none] w8.h
  refine st_skip (J := Jj j) (et_neS (ev_told T vc vn (ev_var (i := 10) (v := v10) rfl r10)) (ev_repr (ev_var (i := 11) (v := v11) rfl r11) (ok_due vc vn) (by decide) (by decide)) rfl) fun w9 e9 => ?_
  have r1 := Rp.mono _ e9.ef r1
  have r2 := Rp.mono _ e9.ef r2
  have r3 := Rp.mono _ e9.ef r3
  have r4 := Rp.mono _ e9.ef r4
  have r5 := Rp.mono _ e9.ef r5
  have r6 := Rp.mono _ e9.ef r6
  have r7 := Rp.mono _ e9.ef r7
  have r10 := Rp.mono _ e9.ef r10
  have r11 := Rp.mono _ e9.ef r11
  -- the canonical store
  refine sq_asgG (J := Jj j) (ev_tupR (ev_canon (K := K) (cS := cS) (cP := cP) vc vn (ev_var (i := 5) (v := v5) rfl r5) (ev_var (i := 6) (v := v6) rfl r6) (ev_var (i := 7) (v := v7) rfl r7))) fun vp w10 e10 hp => g_two hp fun v12 v13 r12 r13 => ?_
  have r1 := Rp.mono _ e10.ef r1
  have r2 := Rp.mono _ e10.ef r2
  have r3 := Rp.mono _ e10.ef r3
  have r4 := Rp.mono _ e10.ef r4
  have r5 := Rp.mono _ e10.ef r5
  have r6 := Rp.mono _ e10.ef r6
  have r7 := Rp.mono _ e10.ef r7
  have r10 := Rp.mono _ e10.ef r10
  have r11 := Rp.mono _ e10.ef r11
  show tSeq _ _ _ [some (.ref j), some v1, some v2, some v3, some v4, some v5, some v6, some v7, some v8, some v9, some v10, some v11, some v12, some v13, none, none, none, none, none, none, none] w10.h
  refine st_skip (J := Jj j) (et_neS (ev_tid T vc vn (ev_var (i := 4) (v := v4) rfl r4)) (ev_tidL vc vn (ev_var (i := 11) (v := v11) rfl r11) (ev_var (i := 12) (v := v12) rfl r12) (ev_var (i := 13) (v := v13) rfl r13)) rfl) fun w11 e11 => ?_
  have r1 := Rp.mono _ e11.ef r1
  have r2 := Rp.mono _ e11.ef r2
  have r3 := Rp.mono _ e11.ef r3
  have r4 := Rp.mono _ e11.ef r4
  have r5 := Rp.mono _ e11.ef r5
  have r6 := Rp.mono _ e11.ef r6
  have r7 := Rp.mono _ e11.ef r7
  have r10 := Rp.mono _ e11.ef r10
  have hJ11 := ((((((hJ4.le e5).le e6).le e7).le e8).le e9).le e10).le e11
  -- the other store
  refine sq_asg (J := Jj j) (R := Some (List Nat) (fun zs => ∃ n, (1 ≤ n ∧ n ≤ 4) ∧ Lets n zs) (letR K)) (ev_if (P := fun _ => True) (et_any (ev_op (ev_takeB (K := K) (cS := cS) (cP := cP) (c := 0) hJ11 (n := 3) (by decide) (by decide) rfl) (ev_cv (v := .int 0)) fun x y w6 e6 ⟨k, _, hx⟩ hy Q2 q2 => ?_)) (fun _ => ?_) fun _ => ?_) fun v14 w12 e12 ⟨zs', ⟨n', hn', hz'⟩, r14⟩ => ?_
  · cases hx
    cases hy
    exact ⟨k, 0, rfl, rfl, q2 _ w6 .rfl ⟨_, trivial, rfl⟩⟩
  · exact (ev_var (i := 1) (v := v1) (R := letR K zs) rfl r1).imp fun _ _ _ r => ⟨zs, ⟨n, hn, hz⟩, r⟩
  · refine ev_lets (K := K) (cS := cS) (cP := cP) hJ11 rfl ((ev_lenL (ev_var (i := 1) (v := v1) (R := letR K zs) rfl r1)).imp fun _ _ _ r => ⟨n, hn, ?_⟩)
    have hl : ((zs.map chr).map RS).length = n := by rw [List.length_map, List.length_map]; exact hz.2.1
    rw [hl] at r
    exact r
  have hJ12 := hJ11.le e12
  have hzl' : zs'.length ≤ 4 := by rw [hz'.2.1]; exact hn'.2
  have r2 := Rp.mono _ e12.ef r2
  have r3 := Rp.mono _ e12.ef r3
  have r4 := Rp.mono _ e12.ef r4
  have r5 := Rp.mono _ e12.ef r5
  have r6 := Rp.mono _ e12.ef r6
  have r7 := Rp.mono _ e12.ef r7
  have r10 := Rp.mono _ e12.ef r10
  show tSeq _ _ _ [some (.ref j), some v1, some v2, some v3, some v4, some v5, some v6, some v7, some v8, some v9, some v10, some v11, some v12, some v13, some v14, none, none, none, none, none, none] w12.h
  refine sq_asgG (J := Jj j) (ev_drw (K := K) (cS := cS) (cP := cP) hJ12 rfl hzl' (ev_var (i := 14) (v := v14) rfl r14) ((ev_cv (v := .int 3)).imp fun _ _ _ r => ⟨3, by decide, r⟩)) fun vp w13 e13 ⟨⟨nf, cf⟩, hDf, hp⟩ => g_two hp fun v15 v16 r15 r16 => ?_
  have hJ13 := hJ12.le e13
  have vnf : VN nf := hDf.vn hz' hn'.1 hn'.2
  have vcf : VC cf := hDf.vc (by decide)
  have r2 := Rp.mono _ e13.ef r2
  have r3 := Rp.mono _ e13.ef r3
  have r4 := Rp.mono _ e13.ef r4
  have r5 := Rp.mono _ e13.ef r5
  have r6 := Rp.mono _ e13.ef r6
  have r7 := Rp.mono _ e13.ef r7
  have r10 := Rp.mono _ e13.ef r10
  show tSeq _ _ _ [some (.ref j), some v1, some v2, some v3, some v4, some v5, some v6, some v7, some v8, some v9, some v10, some v11, some v12, some v13, some v14, some v15, some v16, none, none, none, none] w13.h
  refine sq_asg (J := Jj j) (R := Some (Names × Cells) (fun q => VN q.1 ∧ VC q.2) fun q => StoR K cS q.1 q.2) (ev_if (P := fun _ => True) (et_any (ev_op (ev_takeB (K := K) (cS := cS) (cP := cP) (c := 0) hJ13 (n := 2) (by decide) (by decide) rfl) (ev_cv (v := .int 0)) fun x y w6 e6 ⟨k, _, hx⟩ hy Q2 q2 => ?_)) (fun _ => ?_) fun _ => ?_) fun v17 w14 e14 ⟨⟨n2, c2⟩, ⟨vn2, vc2⟩, r17⟩ => ?_
  · cases hx
    cases hy
    exact ⟨rfl, q2 _ w6 .rfl ⟨_, trivial, rfl⟩⟩
  · exact (ev_sto T vn vc.init (ea_cons (ev_var (i := 2) (v := v2) rfl r2) (ea_cons ((ev_slInit (ev_var (i := 3) (v := v3) rfl r3)).of (by rw [List.map_dropLast])) ea_nil))).imp fun _ _ _ r => ⟨(ns, cs.dropLast), ⟨vn, vc.init⟩, r⟩
  · exact (ev_sto T vnf vcf (ea_cons (ev_var (i := 15) (v := v15) rfl r15) (ea_cons (ev_var (i := 16) (v := v16) rfl r16) ea_nil))).imp fun _ _ _ r => ⟨(nf, cf), ⟨vnf, vcf⟩, r⟩
  have r3 := Rp.mono _ e14.ef r3
  have r4 := Rp.mono _ e14.ef r4
  have r5 := Rp.mono _ e14.ef r5
  have r6 := Rp.mono _ e14.ef r6
  have r7 := Rp.mono _ e14.ef r7
  have r10 := Rp.mono _ e14.ef r10
  show tSeq _ _ _ [some (.ref j), some v1, some v2, some v3, some v4, some v5, some v6, some v7, some v8, some v9, some v10, some v11, some v12, some v13, some v14, some v15, some v16, some v17, none, none, none] w14.h
  refine sq_asg (J := Jj j) (ev_same T vc vn vc2 vn2 (ev_var (i := 17) (v := v17) rfl r17) (ev_var (i := 5) (v := v5) rfl r5) (ev_var (i := 6) (v := v6) rfl r6) (ev_var (i := 7) (v := v7) rfl r7)) fun v18 w15 e15 r18 => ?_
  have r3 := Rp.mono _ e15.ef r3
  have r4 := Rp.mono _ e15.ef r4
  have r10 := Rp.mono _ e15.ef r10
  have r17 := Rp.mono _ e15.ef r17
  show tSeq _ _ _ [some (.ref j), some v1, some v2, some v3, some v4, some v5, some v6, some v7, some v8, some v9, some v10, some v11, some v12, some v13, some v14, some v15, some v16, some v17, some v18, none, none] w15.h
  refine sq_asg (J := Jj j) (ev_ans T vc vn vc2 vn2 (ev_var (i := 4) (v := v4) rfl r4) (ev_var (i := 17) (v := v17) rfl r17) (ev_var (i := 10) (v := v10) rfl r10)) fun v19 w16 e16 r19 => ?_
  have r3 := Rp.mono _ e16.ef r3
  have r4 := Rp.mono _ e16.ef r4
  have r18 := Rp.mono _ e16.ef r18
  show tRet _ _ [some (.ref j), some v1, some v2, some v3, some v4, some v5, some v6, some v7, some v8, some v9, some v10, some v11, some v12, some v13, some v14, some v15, some v16, some v17, some v18, some v19, none] w16.h
  refine st_ret (J := Jj j) (ev_end T (ev_var (i := 4) (v := v4) rfl r4) (ev_var (i := 3) (v := v3) rfl r3) (ev_var (i := 18) (v := v18) rfl r18) (ev_var (i := 19) (v := v19) rfl r19)) fun vr wr er hr => q vr wr (Le.trans ?_ er) hr
  exact ((((((((((((((e1.trans e2).trans e3).trans e4).trans e5).trans e6).trans e7).trans e8).trans e9).trans e10).trans e11).trans e12).trans e13).trans e14).trans e15).trans e16
end
end Z
end

section -- P39
set_option Elab.async false
set_option linter.all false
set_option maxRecDepth 100000
set_option maxHeartbeats 4000000
set_option autoImplicit false
namespace Z
open PySem PySem.Spec L2 K07
section
variable {J : Addr → Prop} {σ : St} {w w0 w1 : Wd} {ta tb tc t te : TE} {ts : TA} {K : PySem.W.Frag} {cS cP : Addr} {mg : PySem.Str → Option Value} {R S Ra Rb : Rp} {Rs : List Rp} {sp : Sp} {ns : List Int}
/-- what was new at the beginning may change -/
theorem Le.fresh_own {a b c : Wd} {p : Addr} (x : Le J0 a b) (y : Le (Jj p) b c) (h : a.h p = none) : Le J0 a c where
  ef := fun q o h => y.ef q o (x.ef q o h)
  eh := fun q o hq => by
    rcases y.eh q o (x.h0 q o hq) with h1 | ⟨hp, _⟩
    · exact .inl h1
    · have : q = p := hp
      subst this
      rw [h] at hq
      cases hq
  nw := fun q o hq => by
    rcases y.nw q o hq with h1 | h1
    · exact x.nw q o h1
    · exact .inr (x.fresh h1)
theorem ev_turn (T : Txt K mg cS cP) (hns : ns.length ≤ 63) {tn : Nat} (h0 : Ev J0 ta σ w (LstR K (ns.map RI))) (h1 : Ev J0 tb σ w (RI tn)) : Ev J0 (tCl (p_law_right K cS cP) (tCons (tCl (p_law_jug K cS cP) (tCons ta (tCons tb tNil))) tNil)) σ w (RB true) := fun w' e Q q =>
  h0 w' e _ fun v w1 e1 r0 => h1 w1 (e.trans e1) _ fun u w2 e2 r1 => by
    refine pn_jug (K := K) (cS := cS) (cP := cP) hns [v, u] w2 .rfl ⟨Rp.mono _ e2.ef r0, r1, trivial⟩ _ fun p o w3 e3 hp own ho => ?_
    have hJ : Jug w3 p := ⟨⟨o, own.h, ho⟩, own.f⟩
    have hp' : w'.h p = none := (e1.trans e2).fresh hp
    exact pj_right T hJ [.ref p] w3 .rfl ⟨rfl, trivial⟩ Q fun v w4 e4 hv => q v w4 (((e1.trans e2).trans e3).fresh_own e4 hp') hv
theorem pu_law (T : Txt K mg cS cP) (hns : ns.length ≤ 63) : Pu0 (p_law K cS cP) [LstR K (ns.map RI)] (RB true) := pu_1 fun v w h Q q => by
  show tRet _ _ [some v, none] w.h
  have h0 : Ev J0 (tVar 0) [some v, none] w (LstR K (ns.map RI)) := ev_var (v := v) rfl h
  obtain ⟨m, hm0, hm1, hm⟩ : ∃ m : Int, 0 ≤ m ∧ m ≤ 6 ∧ Ev J0 (tCB rMax2 (tCons (tC (.int 3)) (tCons (tCB rMin2 (tCons (tCB (rLenQ K) (tCons (tVar 0) tNil)) (tCons (tC (.int 6)) tNil))) tNil))) [some v, none] w (RI m) := by
    refine ⟨_, ?_, ?_, ev_max2 (a := 3) ev_cv (ev_min2 (ev_lenL h0) (ev_cv (v := .int 6)))⟩
    · split <;> split <;> omega
    · split <;> split <;> omega
  have hsrc := src_rng1 hm hm0 (by omega)
  have hlc := ev_lc1 (te := tCl (p_law_right K cS cP) (tCons (tCl (p_law_jug K cS cP) (tCons (tVar 0) (tCons (tVar 1) tNil))) tNil)) (i := 1) (fun _ => true) (fun _ => RB true) hsrc (by omega) (fun k w1 hk e1 x hx => ⟨et_yes, fun _ => ?_⟩) (fun _ _ => id)
  · rw [keptR_all] at hlc
    refine st_ret (ev_all (K := K) (bs := (List.range m.toNat).map fun _ => true) ((en_lstR hlc).of (by rw [List.map_map]; rfl)) ?_) q
    simp
  · cases hx
    exact ev_turn T hns (ev_var (v := v) rfl (Rp.mono _ e1.ef h)) (ev_is rfl)
end
end Z
end

section -- D0
set_option Elab.async false
set_option linter.all false
set_option maxRecDepth 100000
set_option maxHeartbeats 4000000
namespace K07
open PySem PySem.Spec PyProof.Rows L2
/-! ### promises that hold while no repr is under way (guards = some []) -/
structure FnOkG (P : Program) (w : World) (K : PySem.W.Frag) (mg : Str → Option Value) (base : Heap) (k : Nat) (f : Addr) (fd : FuncData) (ps : List Str) (sp : Sp) : Prop where
  len : ∀ vs H Q E, sp vs H Q E → vs.length = ps.length
  go : ∀ (A : Around) (outer : List Env) (s : Shared) (H : Hp) (args : Args) (us : List Value) (vs : List V) (Q : VK) (E : XK), A.guards = some [] → Room k A → Env0 P w K mg base A outer s H →
    BindsTo s fd args (ps.zip us) → Vals vs us → sp vs H Q E → codeAny (model P w) A (.call (.ref f) args) (CR CX0 outer P w H s Q E) s
section
variable {P : Program} {w : World} {K : PySem.W.Frag} {mg : Str → Option Value} {base : Heap} {x qual : Str} {params : Arguments} {body : List Stmt} {scope : Scope} {dvs : List V} {kws : List (Str × V)} {f : Addr} {fd : FuncData}
/-- a def's promise from its body, where the guards are known -/
theorem okG {N ps : List Str} {k : Nat} {sp : Sp} (F : FunD K x qual params body scope dvs kws f fd) (S : FnScope N ps scope) (len : ∀ vs H Q E, sp vs H Q E → vs.length = ps.length)
    (hbody : ∀ (cdv : Value) (A : Around) (outer : List Env) (s : Shared) (H : Hp) (vs : List V) (Q : VK) (E : XK), A.guards = some [] → Room k (A.deeper (envOfC qual scope s.heap.objs.size f cdv)) → sp vs H Q E →
      ∃ t, PSs (cxOf CX0 P w K mg base N qual scope f cdv A outer s H E) body t ∧ t { nx := fun _ H' => Q .non H', rt := Q } (start N vs) H) : FnOkG P w K mg base (k + 1) f fd ps sp where
  len := len
  go := fun A outer s H args us vs Q E hgu room env bind rel prom => by
    obtain ⟨oc, od, dV, kV, doc, pm, an, cdv, ct, osl, rfl, look, code, _, _⟩ := F.ex
    have stays : ∀ b o, base.get? b = some o → s.heap.get? b = some o := fun b o e => (env.bs b o e).1
    have KX : K.In s.heap := env.mod.kin.keeps stays
    refine codeAny_call_function room.depth (KX _ _ look) rfl S.co S.gen rfl (PySem.W.codeRec_of KX code) (bind _ _ _ _ ?_)
    refine wpAny_newFunctionEnv_cells S.kind (fun y hy => ?_) fun en same s1 inC => ?_
    · obtain ⟨n, v⟩ := y
      exact (S.par n (List.of_mem_zip hy).1).imp id fun c => ⟨c, PySem.W.cellsFrom_some _ _ _ (.inl c)⟩
    · cases same
      obtain ⟨t, der, holds⟩ := hbody cdv A outer s H vs Q E hgu (room.deeper _) prom
      have J : Inv (cxOf CX0 P w K mg base N qual scope f cdv A outer s H E) [] (start N vs) H s1 := inv_start S room.hd env (len _ _ _ _ prom) rel inC
      refine ⟨(env.mod.nolimit.keeps stays).keeps inC.toInCall.keep, codeAny_func (wpAny_mono (der.run [] s1 (start N vs) H _ J holds) (fun fl s' out => ?_) fun _ _ out => out)⟩
      cases fl with
      | ret u =>
        obtain ⟨v, σ', H', J', rv, q⟩ := out
        exact ⟨v, H', J'.os, J'.bare, J'.base, J'.hok, rv, q⟩
      | next =>
        obtain ⟨σ', H', J', q⟩ := out
        exact ⟨V.non, H', J'.os, J'.bare, J'.base, J'.hok, rfl, q⟩
      | brk => exact out.elim fun _ h => h.elim fun _ h => False.elim h.2
      | cont => exact out.elim fun _ h => h.elim fun _ h => False.elim h.2
end
structure CalG (P : Program) (w : World) (K : PySem.W.Frag) (mg : Str → Option Value) (base : Heap) (k : Nat) (x : Str) (ps : List Str) (sp : Sp) : Prop where
  ex : ∃ (f : Addr) (fd : FuncData), FnOkG P w K mg base k f fd ps sp ∧ mg x = some (Value.ref f) ∧ PySem.W.keepIn K (Value.ref f) = true ∧ Binds K fd ps []
section
variable {X : Cx} {k : Nat} {x : Str} {ps : List Str} {sp : Sp} {e : Expr} {es : List Expr} {t : TA} {p pos : Pos}
theorem pe_calG (c : CalG X.prog X.w X.K X.mg X.base k x ps sp) (hgu : X.A.guards = some []) (hr : Room k X.A) (hg : Gl X x) (ha : PA X (e :: es) t) (hdb : (x == ("__debug__" : Str)) = false := by decide)
    (he : starEach (e :: es) X.env = (false, eval e X.env) :: starEach es X.env := by rfl) (hpl : (backTo pos (starEach es X.env)).any (·.1) = false := by rfl) : PE X (.Call (.Name x p) (e :: es) [] pos) (tCl sp t) := by
  obtain ⟨f, fd, F, hm, hk, hb⟩ := c.ex
  refine ⟨fun pins s σ H Q I h => wpAny_Call_Name_kw (ld_glob I hg hm (PySem.W.callWith_K (h₀ := X.base) I.ok.mod.kin hk (thn (ha.run pos pins s σ H _ I h) fun us s1 ⟨vs, H1, J, r, q⟩ => ⟨J.kIn, ?_⟩) he hpl) hdb)⟩
  have q' : sp vs H1 Q E0 := by
    have : sp (vs ++ []) H1 Q E0 := q
    rwa [List.append_nil] at this
  have hB := hb s1 us J.kIn (by rw [List.append_nil, ← r.length]; exact F.len _ _ _ _ q')
  rw [List.append_nil] at hB
  refine wpAny_call (codeAny_mono (F.go X.A X.stack s1 H1 ⟨us, []⟩ us vs Q E0 hgu hr J.env0 hB r q') fun z s' out => ?_)
  cases z with
  | error er => exact False.elim out
  | ok fl => cases fl with
    | ret u => exact J.after out
    | next => exact False.elim out
    | brk => exact False.elim out
    | cont => exact False.elim out
end
/-! ### where defs stand -/
structure AtF (K : PySem.W.Frag) (mg : Str → Option Value) (x : Str) (st : Stmt) : Prop where
  ex : ∃ (f : Addr) (fd : FuncData), mg x = some (.ref f) ∧ FunD K x x (defArgs st) (defBody st) (defScope st) [] [] f fd
structure AtMk (K : PySem.W.Frag) (C : Addr) (q : Str) (st : Stmt) : Prop where
  ex : ∃ (f : Addr) (fd : FuncData), Mk K C f ∧ FunD K "__init__" q (defArgs st) (defBody st) (defScope st) [] [] f fd
structure AtEq (K : PySem.W.Frag) (C : Addr) (q : Str) (st : Stmt) : Prop where
  ex : ∃ (f : Addr) (fd : FuncData), PySem.W.findIn K (.ref C) "__eq__" = some (some (.ref f)) ∧ PySem.W.isFn K (.ref f) = true ∧ FunD K "__eq__" q (defArgs st) (defBody st) (defScope st) [] [] f fd
structure AtPr (K : PySem.W.Frag) (C : Addr) (x q : Str) (st : Stmt) : Prop where
  ex : ∃ (p f : Addr) (fd : FuncData), PropOf K C x p f ∧ FunD K x q (defArgs st) (defBody st) (defScope st) [] [] f fd
theorem ck_of {P : Program} {w : World} {K : PySem.W.Frag} {mg : Str → Option Value} {base : Heap} {k : Nat} {x : Str} {ps ks : List Str} {sp : Sp} {st : Stmt} {back : Bool} (c : Cal P w K mg base k x ps sp) (a : AtF K mg x st)
    (h : ∀ (kV doc pm : Value) (an : Option Addr) (cdv ct : Value) (ws : List Value), ws.length = ks.length → bindArgs (PySem.W.fnOf x x (defArgs st) (defBody st) (defScope st) .none kV doc pm an cdv ct) ⟨[], ks.zip ws⟩ = pure (ps.zip (if back = true then ws.reverse else ws))) :
    CalK P w K mg base k x ps sp ks back := by
  obtain ⟨f, fd, hF, hm, hk, ⟨q, st', F'⟩, _⟩ := c.ex
  obtain ⟨f2, fd2, hm2, F⟩ := a.ex
  cases Value.ref.inj (Option.some.inj (hm.symm.trans hm2))
  obtain ⟨_, _, _, _, _, _, _, _, _, _, _, lk', _⟩ := F'.ex
  obtain ⟨oc, od, dV, kV, doc, pm, an, cdv, ct, osl, e, lk, _, hD, _⟩ := F.ex
  have e3 : fd = fd2 := by
    have z := lk'.symm.trans lk
    simp only [Option.some.injEq, Obj.mk.injEq, Data.func.injEq] at z
    exact z.2.2.1
  subst e3
  refine ⟨f, fd, hF, hm, hk, fun s ws hl => ?_⟩
  subst e
  rcases hD with ⟨_, rfl⟩ | ⟨e, _⟩
  · exact .of_eq (h kV doc pm an cdv ct ws hl)
  · exact absurd rfl e
end K07
end

section -- D1
set_option Elab.async false
set_option linter.all false
set_option maxRecDepth 100000
set_option maxHeartbeats 4000000
namespace K07
open PySem PySem.Spec PyProof.Rows L2
theorem sc_knot_order : FnScope N_knot_order ["knots"] (defScope s_knot_order) := ⟨rfl, rfl, rfl, by decide +kernel, rfl, by decide +kernel, by decide +kernel⟩
theorem der_knot_order {P : Program} {w : World} {K : PySem.W.Frag} {mg : Str → Option Value} {base : Heap} {cS cP f : Addr} {cd : Value} {A : Around} {outer : List Env} {s : Shared} {H : Hp} {E : XK} (T : Txt K mg cS cP)
    (hr : Room 0 (A.deeper (envOfC "knot_order" (defScope s_knot_order) s.heap.objs.size f cd))) :
    PSs (cxOf CX0 P w K mg base N_knot_order "knot_order" (defScope s_knot_order) f cd A outer s H E).nox (defBody s_knot_order) (t_knot_order K cS cP ) := by
  have nd : N_knot_order.Nodup := by decide +kernel
  exact (pss_cons (ps_par3 (i := 1) (j := 2) (l := 3) rfl nd rfl rfl rfl (by decide) (by decide) (by decide) rfl rfl rfl (pa_cons pe_dnewK (pa_cons (pe_lst pa_nil) (pa_cons pe_dnewK pa_nil))) (by rfl))
    (pss_cons (ps_for PassesOwn.never rfl (pi_enum (by rfl) T.enumerate (pa_cons (pv 0) pa_nil)) (pg_tup rfl (pgs_cons (pg_name (i := 4) nd rfl (Or.inl rfl)) (pgs_cons (pg_name (i := 5) nd rfl (Or.inl rfl)) pgs_nil)))
    (pss_one (ps_for PassesOwn.never rfl (pi_str (pe_ix ix_list (pv 5) pe_int (fun _ _ => rfl))) (pg_name (i := 6) nd rfl (Or.inl rfl))
    (pss_one (ps_dput (hu_of hr) (pv 1) (pv 6) (pv 4) rfl)))))
    (pss_cons (ps_for PassesOwn.never rfl (pi_list (pe_callB (call_sortedD rfl) (by rfl) T.sorted (by decide +kernel) (pa_cons (pv 1) pa_nil))) (pg_name (i := 6) nd rfl (Or.inl rfl))
    (pss_cons (ps_set (i := 4) nd rfl (Or.inl rfl) (pe_dget (hu_of hr) (pv 1) (pv 6) (fun _ _ => rfl)))
    (pss_one (ps_while PassesOwn.never (PW.pt (pw_and (pt_cmp (pc_notN (pv 4))) (pw_and1 (pt_cmp (pc_dnotin (hu_of hr) (pv 4) (pv 3)))))) (pss_cons (ps_dput (hu_of hr) (pv 3) (pv 4) pe_bl rfl)
    (pss_cons (ps_expr (pe_bm PySem.F.plainAttrs_list PySem.F.slot_list_append PySem.F.type_list_append mt_append (pv 2) (pa_cons (pv 4) pa_nil)))
    (pss_one (ps_set (i := 4) nd rfl (Or.inl rfl) (pe_ix ix_list (pe_ix ix_list (pv 0) (pv 4) (fun _ _ => rfl)) pe_int (fun _ _ => rfl))))))))))
    (pss_one (ps_ret (pv 2))))))
-- level 1
theorem sc_shape_of_knots : FnScope N_shape_of_knots ["knots", "order"] (defScope s_shape_of_knots) := ⟨rfl, rfl, rfl, by decide +kernel, rfl, by decide +kernel, by decide +kernel⟩
theorem der_shape_of_knots {P : Program} {w : World} {K : PySem.W.Frag} {mg : Str → Option Value} {base : Heap} {cS cP f : Addr} {cd : Value} {A : Around} {outer : List Env} {s : Shared} {H : Hp} {E : XK} (T : Txt K mg cS cP)
    (hr : Room 0 (A.deeper (envOfC "shape_of_knots" (defScope s_shape_of_knots) s.heap.objs.size f cd))) :
    PSs (cxOf CX0 P w K mg base N_shape_of_knots "shape_of_knots" (defScope s_shape_of_knots) f cd A outer s H E).nox (defBody s_shape_of_knots) (t_shape_of_knots K cS cP ) := by
  have nd : N_shape_of_knots.Nodup := by decide +kernel
  exact (pss_cons (ps_set (i := 2) nd rfl (Or.inl rfl) pe_dnewK)
    (pss_cons (ps_for PassesOwn.never rfl (pi_enum (by rfl) T.enumerate (pa_cons (pv 1) pa_nil)) (pg_tup rfl (pgs_cons (pg_name (i := 3) nd rfl (Or.inl rfl)) (pgs_cons (pg_name (i := 4) nd rfl (Or.inl rfl)) pgs_nil)))
    (pss_one (ps_dput (hu_of hr) (pv 2) (pv 4) (pv 3) rfl)))
    (pss_cons (ps_set (i := 5) nd rfl (Or.inl rfl) (pe_lst pa_nil))
    (pss_cons (ps_for PassesOwn.never rfl (pi_list (pv 1)) (pg_name (i := 4) nd rfl (Or.inl rfl))
    (pss_cons (ps_asg (pe_ix ix_list (pv 0) (pv 4) (fun _ _ => rfl)) (pg_unl rfl (pgs_cons (pg_name (i := 6) nd rfl (Or.inl rfl)) (pgs_cons (pg_name (i := 7) nd rfl (Or.inl rfl)) (pgs_cons (pg_name (i := 8) nd rfl (Or.inl rfl)) pgs_nil)))))
    (pss_cons (ps_set (i := 9) nd rfl (Or.inl rfl) (pe_ifExp (pt_cmpR op_ne (pv 6) pe_str (nomark _)) (pe_join pe_str (pe_callB (call_sortedSt rfl) (by rfl) T.sorted (by decide +kernel) (pa_cons (pv 6) pa_nil))) pe_str))
    (pss_one (ps_expr (pe_bm PySem.F.plainAttrs_list PySem.F.slot_list_append PySem.F.type_list_append mt_append (pv 5) (pa_cons (pe_op op_add_str (pe_op op_add_str (pv 9) (pv 7)) (pe_ifExp (pt_cmpR op_eq (pv 7) pe_str (nomark _)) (pe_callTy call_str_int (by rfl) T.str (by decide +kernel) (pa_cons (pe_dget (hu_of hr) (pv 2) (pv 8) (fun _ _ => rfl)) pa_nil)) pe_str)) pa_nil)))))))
    (pss_one (ps_ret (pe_join pe_str (pv 5))))))))
-- level 1
theorem sc_knots_in : FnScope N_knots_in ["shape"] (defScope s_knots_in) := ⟨rfl, rfl, rfl, by decide +kernel, rfl, by decide +kernel, by decide +kernel⟩
theorem der_knots_in {P : Program} {w : World} {K : PySem.W.Frag} {mg : Str → Option Value} {base : Heap} {cS cP f : Addr} {cd : Value} {A : Around} {outer : List Env} {s : Shared} {H : Hp} {E : XK} (T : Txt K mg cS cP)
    (hr : Room 0 (A.deeper (envOfC "knots_in" (defScope s_knots_in) s.heap.objs.size f cd))) :
    PSs (cxOf CX0 P w K mg base N_knots_in "knots_in" (defScope s_knots_in) f cd A outer s H E).nox (defBody s_knots_in) (t_knots_in K cS cP ) := by
  have nd : N_knots_in.Nodup := by decide +kernel
  exact (pss_cons (ps_set (i := 1) nd rfl (Or.inl rfl) (pe_lst pa_nil))
    (pss_cons (ps_for PassesOwn.never rfl (pi_list (pe_split (pv 0) pe_str)) (pg_name (i := 2) nd rfl (Or.inl rfl))
    (pss_cons (ps_setLc (own := [("place", 7), ("sign", 5)]) (g := (gTup K 2 (gCons (gName 7) (gCons (gName 5) gNil)))) (tt := (tTest (tOp rInS (tVar 5) (tC (.str ".!>"))))) (te := (tVar 7)) (i := 3) rfl nd rfl rfl (sw_true rfl rfl rfl (by decide +kernel)) (pi_enumS (by rfl) T.enumerate (pa_cons (pv 2) pa_nil)) (blkOk_by (own := [("place", 7), ("sign", 5)]) (N := N_knots_in) (sc := defScope s_knots_in) (by decide +kernel)) (fun _ _ _ _ _ => (pg_tup rfl (pgs_cons (pg_name (i := 7) nd rfl (Or.inl rfl)) (pgs_cons (pg_name (i := 5) nd rfl (Or.inl rfl)) pgs_nil)))) (fun _ _ _ _ _ => (pts_one (pt_cmpR op_inS (pv 5) pe_str (by rfl)))) (fun _ _ _ _ _ => (pv 7)))
    (pss_cons (ps_if (pt_cmpR (op_eqD hr.units) (pv 3) (pe_lst pa_nil) (nomark _)) (pss_one (ps_ret pe_non)) pss_nil)
    (pss_cons (ps_par3 (i := 4) (j := 5) (l := 6) rfl nd rfl rfl rfl (by decide) (by decide) (by decide) rfl rfl rfl (pa_cons (pe_slice sl_str (pv 2) po_none (po_some (pe_ix ix_list (pv 3) pe_int (fun _ _ => rfl)))) (pa_cons (pe_ix ix_str (pv 2) (pe_ix ix_list (pv 3) pe_int (fun _ _ => rfl)) (fun _ _ => rfl)) (pa_cons (pe_slice sl_str (pv 2) (po_some (pe_op op_add (pe_ix ix_list (pv 3) pe_int (fun _ _ => rfl)) pe_int)) po_none) pa_nil))) (by rfl))
    (pss_cons (ps_if (PW.pt (pw_or (pt_cmpR op_eq (pv 4) pe_str (nomark _)) (pw_or (pt_cmpR op_ne (pe_cmpR op_eq (pv 5) pe_str (nomark _)) (pe_m0 PySem.F.slot_str_isdigit PySem.F.type_str_isdigit mt_isdigit (pv 6)) (nomark _)) (pw_or (PW.pt (pw_and (pt_cmpR op_ne (pv 5) pe_str (nomark _)) (pw_and1 (pt_cmpR op_ne (pv 6) pe_str (nomark _))))) (pw_or1 (pt_cmpR op_gt (pe_callB call_len_str (by rfl) T.len (by decide +kernel) (pa_cons (pv 6) pa_nil)) pe_int (nomark _))))))) (pss_one (ps_ret pe_non)) pss_nil)
    (pss_one (ps_expr (pe_bm PySem.F.plainAttrs_list PySem.F.slot_list_append PySem.F.type_list_append mt_append (pv 1) (pa_cons (pe_lst (pa_cons (pe_ifExp (pt_cmpR op_eq (pv 4) pe_str (nomark _)) pe_str (pv 4)) (pa_cons (pv 5) (pa_cons (pe_ifExp (pt_cmpR op_eq (pv 5) pe_str (nomark _)) (pe_callTy call_int_str (by rfl) T.int (by decide +kernel) (pa_cons (pv 6) pa_nil)) pe_non) pa_nil)))) pa_nil)))))))))
    (pss_one (ps_ret (pv 1)))))
-- level 1
theorem sc_is_whole : FnScope N_is_whole ["value"] (defScope s_is_whole) := ⟨rfl, rfl, rfl, by decide +kernel, rfl, by decide +kernel, by decide +kernel⟩
theorem der_is_whole {P : Program} {w : World} {K : PySem.W.Frag} {mg : Str → Option Value} {base : Heap} {cS cP f : Addr} {cd : Value} {A : Around} {outer : List Env} {s : Shared} {H : Hp} {E : XK} (T : Txt K mg cS cP)
    (hr : Room 0 (A.deeper (envOfC "is_whole" (defScope s_is_whole) s.heap.objs.size f cd))) :
    PSs (cxOf CX0 P w K mg base N_is_whole "is_whole" (defScope s_is_whole) f cd A outer s H E).nox (defBody s_is_whole) (t_is_whole K cS cP ) := by
  have nd : N_is_whole.Nodup := by decide +kernel
  exact (pss_one (ps_ret (pe_and (pe_callB call_isi (by rfl) T.isinstance (by decide +kernel) (pa_cons (pv 0) (pa_cons (pe_bltn (v := .ty "int") rfl T.int (by decide +kernel) rfl) pa_nil))) (pe_one (pe_not (pe_callB call_isi (by rfl) T.isinstance (by decide +kernel) (pa_cons (pv 0) (pa_cons (pe_bltn (v := .ty "bool") rfl T.bool (by decide +kernel) rfl) pa_nil))))))))
-- level 1
theorem sc_is_between : FnScope N_is_between ["value", "low", "high"] (defScope s_is_between) := ⟨rfl, rfl, rfl, by decide +kernel, rfl, by decide +kernel, by decide +kernel⟩
theorem der_is_between {P : Program} {w : World} {K : PySem.W.Frag} {mg : Str → Option Value} {base : Heap} {cS cP f : Addr} {cd : Value} {A : Around} {outer : List Env} {s : Shared} {H : Hp} {E : XK} {sp_is_whole : Sp} (T : Txt K mg cS cP) (c_is_whole : Cal P w K mg base 1 "is_whole" ["value"] sp_is_whole)
    (hr : Room 1 (A.deeper (envOfC "is_between" (defScope s_is_between) s.heap.objs.size f cd))) :
    PSs (cxOf CX0 P w K mg base N_is_between "is_between" (defScope s_is_between) f cd A outer s H E).nox (defBody s_is_between) (t_is_between K cS cP sp_is_whole) := by
  have nd : N_is_between.Nodup := by decide +kernel
  exact (pss_one (ps_ret (pe_and (pe_cal c_is_whole (hr.mono (by decide)) (by rfl) (pa_cons (pv 0) pa_nil)) (pe_and (pe_cmpR op_le (pv 1) (pv 0) (nomark _)) (pe_one (pe_cmpR op_le (pv 0) (pv 2) (nomark _)))))))
-- level 2
theorem sc_is_place : FnScope N_is_place ["value"] (defScope s_is_place) := ⟨rfl, rfl, rfl, by decide +kernel, rfl, by decide +kernel, by decide +kernel⟩
theorem der_is_place {P : Program} {w : World} {K : PySem.W.Frag} {mg : Str → Option Value} {base : Heap} {cS cP f : Addr} {cd : Value} {A : Around} {outer : List Env} {s : Shared} {H : Hp} {E : XK} {sp_is_between : Sp} (T : Txt K mg cS cP) (c_is_between : Cal P w K mg base 2 "is_between" ["value", "low", "high"] sp_is_between)
    (hr : Room 2 (A.deeper (envOfC "is_place" (defScope s_is_place) s.heap.objs.size f cd))) :
    PSs (cxOf CX0 P w K mg base N_is_place "is_place" (defScope s_is_place) f cd A outer s H E).nox (defBody s_is_place) (t_is_place K cS cP sp_is_between) := by
  have nd : N_is_place.Nodup := by decide +kernel
  exact (pss_one (ps_ret (pe_cal c_is_between (hr.mono (by decide)) (by rfl) (pa_cons (pv 0) (pa_cons pe_int (pa_cons (pe_gint rfl T.MOST_PLACE) pa_nil))))))
-- level 3
theorem sc_is_letter : FnScope N_is_letter ["value"] (defScope s_is_letter) := ⟨rfl, rfl, rfl, by decide +kernel, rfl, by decide +kernel, by decide +kernel⟩
theorem der_is_letter {P : Program} {w : World} {K : PySem.W.Frag} {mg : Str → Option Value} {base : Heap} {cS cP f : Addr} {cd : Value} {A : Around} {outer : List Env} {s : Shared} {H : Hp} {E : XK} (T : Txt K mg cS cP)
    (hr : Room 0 (A.deeper (envOfC "is_letter" (defScope s_is_letter) s.heap.objs.size f cd))) :
    PSs (cxOf CX0 P w K mg base N_is_letter "is_letter" (defScope s_is_letter) f cd A outer s H E).nox (defBody s_is_letter) (t_is_letter K cS cP ) := by
  have nd : N_is_letter.Nodup := by decide +kernel
  exact (pss_one (ps_ret (pe_and (pe_callB call_isi (by rfl) T.isinstance (by decide +kernel) (pa_cons (pv 0) (pa_cons (pe_bltn (v := .ty "str") rfl T.str (by decide +kernel) rfl) pa_nil))) (pe_and (pe_cmpR op_eq (pe_callB call_len_str (by rfl) T.len (by decide +kernel) (pa_cons (pv 0) pa_nil)) pe_int (nomark _)) (pe_one (pe_cmpR op_inS (pv 0) (pe_gstr rfl T.LETTERS) (by rfl)))))))
-- level 1
theorem sc_is_pair : FnScope N_is_pair ["value"] (defScope s_is_pair) := ⟨rfl, rfl, rfl, by decide +kernel, rfl, by decide +kernel, by decide +kernel⟩
theorem der_is_pair {P : Program} {w : World} {K : PySem.W.Frag} {mg : Str → Option Value} {base : Heap} {cS cP f : Addr} {cd : Value} {A : Around} {outer : List Env} {s : Shared} {H : Hp} {E : XK} (T : Txt K mg cS cP)
    (hr : Room 0 (A.deeper (envOfC "is_pair" (defScope s_is_pair) s.heap.objs.size f cd))) :
    PSs (cxOf CX0 P w K mg base N_is_pair "is_pair" (defScope s_is_pair) f cd A outer s H E).nox (defBody s_is_pair) (t_is_pair K cS cP ) := by
  have nd : N_is_pair.Nodup := by decide +kernel
  exact (pss_one (ps_ret (pe_and (pe_callB call_isi (by rfl) T.isinstance (by decide +kernel) (pa_cons (pv 0) (pa_cons (pe_bltn (v := .ty "tuple") rfl T.tuple (by decide +kernel) rfl) pa_nil))) (pe_one (pe_cmpR op_eq (pe_callB call_len_seq (by rfl) T.len (by decide +kernel) (pa_cons (pv 0) pa_nil)) pe_int (nomark _))))))
-- level 1
theorem sc_are_knots_right : FnScope N_are_knots_right ["knots"] (defScope s_are_knots_right) := ⟨rfl, rfl, rfl, by decide +kernel, rfl, by decide +kernel, by decide +kernel⟩
theorem der_are_knots_right {P : Program} {w : World} {K : PySem.W.Frag} {mg : Str → Option Value} {base : Heap} {cS cP f : Addr} {cd : Value} {A : Around} {outer : List Env} {s : Shared} {H : Hp} {E : XK} (T : Txt K mg cS cP)
    (hr : Room 0 (A.deeper (envOfC "are_knots_right" (defScope s_are_knots_right) s.heap.objs.size f cd))) :
    PSs (cxOf CX0 P w K mg base N_are_knots_right "are_knots_right" (defScope s_are_knots_right) f cd A outer s H E).nox (defBody s_are_knots_right) (t_are_knots_right K cS cP ) := by
  have nd : N_are_knots_right.Nodup := by decide +kernel
  exact (pss_cons (ps_set (i := 1) nd rfl (Or.inl rfl) (pe_join pe_str (pe_lc (own := [("knot", 2)]) (g := (gName 2)) (tt := tYes) (te := (tOp (rIxL K) (tVar 2) (tC (.int 0)))) rfl nd (pi_list (pv 0)) (blkOk_by (own := [("knot", 2)]) (N := N_are_knots_right) (sc := defScope s_are_knots_right) (by decide +kernel)) (fun _ _ _ _ _ => (pg_name (i := 2) nd rfl (Or.inl rfl))) (fun _ _ _ _ _ => pts_nil) (fun _ _ _ _ _ => (pe_ix ix_list (pv 2) pe_int (fun _ _ => rfl))))))
    (pss_cons (ps_if (PW.pt (pw_or (pt_not (pt_chain op_le op_le pe_int (pe_callB call_len_str (by rfl) T.len (by decide +kernel) (pa_cons (pv 1) pa_nil)) (pe_gint rfl T.MOST_NAMES))) (pw_or1 (pt_cmpR op_ne (pe_lenSetS rfl rfl T.len rfl T.set (pv 1)) (pe_callB call_len_str (by rfl) T.len (by decide +kernel) (pa_cons (pv 1) pa_nil)) (nomark _))))) (pss_one (ps_ret pe_bl)) pss_nil)
    (pss_cons (ps_if (pt_cmpR (op_neD hr.units) (pe_lc (own := [("letter", 3)]) (g := (gName 3)) (tt := (tTest (tOp rNotInS (tVar 3) (tC (.str LET))))) (te := (tVar 3)) rfl nd (pi_str (pv 1)) (blkOk_by (own := [("letter", 3)]) (N := N_are_knots_right) (sc := defScope s_are_knots_right) (by decide +kernel)) (fun _ _ _ _ _ => (pg_name (i := 3) nd rfl (Or.inl rfl))) (fun _ _ _ _ _ => (pts_one (pt_cmpR op_notInS (pv 3) (pe_gstr rfl T.LETTERS) (by rfl)))) (fun _ _ _ _ _ => (pv 3))) (pe_lst pa_nil) (nomark _)) (pss_one (ps_ret pe_bl)) pss_nil)
    (pss_cons (ps_if (pt_cmpR op_gt (pe_callB call_len_seq (by rfl) T.len (by decide +kernel) (pa_cons (pe_lc (own := [("knot", 2)]) (g := (gName 2)) (tt := (tTest (tOp rEq (tOp (rIxL K) (tVar 2) (tC (.int 1))) (tC (.str "."))))) (te := (tVar 2)) rfl nd (pi_list (pv 0)) (blkOk_by (own := [("knot", 2)]) (N := N_are_knots_right) (sc := defScope s_are_knots_right) (by decide +kernel)) (fun _ _ _ _ _ => (pg_name (i := 2) nd rfl (Or.inl rfl))) (fun _ _ _ _ _ => (pts_one (pt_cmpR op_eq (pe_ix ix_list (pv 2) pe_int (fun _ _ => rfl)) pe_str (nomark _)))) (fun _ _ _ _ _ => (pv 2))) pa_nil)) pe_int (nomark _)) (pss_one (ps_ret pe_bl)) pss_nil)
    (pss_one (ps_ret (pe_callB (cr_all rfl) (by rfl) T.all (by decide +kernel) (pa_cons (pe_lc (own := [("knot", 2)]) (g := (gName 2)) (tt := tYes) (te := (tOrV (tIsN (tOp (rIxL K) (tVar 2) (tC (.int 2)))) (tOp rLtI (tOp (rIxL K) (tVar 2) (tC (.int 2))) (tCB (rLenQ K) (tCons (tVar 0) tNil))))) rfl nd (pi_list (pv 0)) (blkOk_by (own := [("knot", 2)]) (N := N_are_knots_right) (sc := defScope s_are_knots_right) (by decide +kernel)) (fun _ _ _ _ _ => (pg_name (i := 2) nd rfl (Or.inl rfl))) (fun _ _ _ _ _ => pts_nil) (fun _ _ _ _ _ => (pe_or (pe_cmp (pc_isN (pe_ix ix_list (pv 2) pe_int (fun _ _ => rfl)))) (pe_one (pe_cmpR op_lt (pe_ix ix_list (pv 2) pe_int (fun _ _ => rfl)) (pe_callB call_len_seq (by rfl) T.len (by decide +kernel) (pa_cons (pv 0) pa_nil)) (nomark _)))))) pa_nil))))))))
-- level 1
theorem sc_has_needless_knot : FnScope N_has_needless_knot ["knots"] (defScope s_has_needless_knot) := ⟨rfl, rfl, rfl, by decide +kernel, rfl, by decide +kernel, by decide +kernel⟩
theorem der_has_needless_knot {P : Program} {w : World} {K : PySem.W.Frag} {mg : Str → Option Value} {base : Heap} {cS cP f : Addr} {cd : Value} {A : Around} {outer : List Env} {s : Shared} {H : Hp} {E : XK} (T : Txt K mg cS cP)
    (hr : Room 0 (A.deeper (envOfC "has_needless_knot" (defScope s_has_needless_knot) s.heap.objs.size f cd))) :
    PSs (cxOf CX0 P w K mg base N_has_needless_knot "has_needless_knot" (defScope s_has_needless_knot) f cd A outer s H E).nox (defBody s_has_needless_knot) (t_has_needless_knot K cS cP ) := by
  have nd : N_has_needless_knot.Nodup := by decide +kernel
  exact (pss_cons (ps_set (i := 1) nd rfl (Or.inr rfl) (pe_op op_rep (pe_lst (pa_cons pe_int pa_nil)) (pe_callB call_len_seq (by rfl) T.len (by decide +kernel) (pa_cons (pv 0) pa_nil))))
    (pss_cons (ps_for PassesOwn.never rfl (pi_list (pv 0)) (pg_name (i := 2) nd rfl (Or.inl rfl))
    (pss_one (ps_if (pt_cmp (pc_notN (pe_ix ix_list (pv 2) pe_int (fun _ _ => rfl)))) (pss_one (ps_augS (pv 1) (pe_ix ix_list (pv 2) pe_int (fun _ _ => rfl)) get_listA pe_int ip_add set_list)) pss_nil)))
    (pss_one (ps_ret (pe_callB (cr_any rfl) (by rfl) T.any (by decide +kernel) (pa_cons (pe_lc (own := [("index", 3), ("knot", 2)]) (g := (gTup K 2 (gCons (gName 3) (gCons (gName 2) gNil)))) (tt := tYes) (te := (tAndV (tOp rEq (tOp (rIxL K) (tVar 2) (tC (.int 0))) (tC (.str ""))) (tAndV (tOp rEq (tOp (rIxL K) (tVar 2) (tC (.int 1))) (tC (.str ">"))) (tOp rLtI (tOp (rIxL K) (tVar 1) (tVar 3)) (tC (.int 2)))))) rfl nd (pi_enum (by rfl) T.enumerate (pa_cons (pv 0) pa_nil)) (blkOk_by (own := [("index", 3), ("knot", 2)]) (N := N_has_needless_knot) (sc := defScope s_has_needless_knot) (by decide +kernel)) (fun _ _ _ _ _ => (pg_tup rfl (pgs_cons (pg_name (i := 3) nd rfl (Or.inl rfl)) (pgs_cons (pg_name (i := 2) nd rfl (Or.inl rfl)) pgs_nil)))) (fun _ _ _ _ _ => pts_nil) (fun _ _ _ _ _ => (pe_and (pe_cmpR op_eq (pe_ix ix_list (pv 2) pe_int (fun _ _ => rfl)) pe_str (nomark _)) (pe_and (pe_cmpR op_eq (pe_ix ix_list (pv 2) pe_int (fun _ _ => rfl)) pe_str (nomark _)) (pe_one (pe_cmpR op_lt (pe_ix ix_list (pv 1) (pv 3) (fun _ _ => rfl)) pe_int (nomark _))))))) pa_nil))))))
-- level 1
theorem sc_shape_knots : FnScope N_shape_knots ["value"] (defScope s_shape_knots) := ⟨rfl, rfl, rfl, by decide +kernel, rfl, by decide +kernel, by decide +kernel⟩
theorem der_shape_knots {P : Program} {w : World} {K : PySem.W.Frag} {mg : Str → Option Value} {base : Heap} {cS cP f : Addr} {cd : Value} {A : Around} {outer : List Env} {s : Shared} {H : Hp} {E : XK} {sp_knots_in sp_are_knots_right sp_has_needless_knot sp_knot_order sp_shape_of_knots : Sp} (T : Txt K mg cS cP) (c_knots_in : Cal P w K mg base 1 "knots_in" ["shape"] sp_knots_in) (c_are_knots_right : Cal P w K mg base 1 "are_knots_right" ["knots"] sp_are_knots_right) (c_has_needless_knot : Cal P w K mg base 1 "has_needless_knot" ["knots"] sp_has_needless_knot) (c_knot_order : Cal P w K mg base 1 "knot_order" ["knots"] sp_knot_order) (c_shape_of_knots : Cal P w K mg base 1 "shape_of_knots" ["knots", "order"] sp_shape_of_knots)
    (hr : Room 1 (A.deeper (envOfC "shape_knots" (defScope s_shape_knots) s.heap.objs.size f cd))) :
    PSs (cxOf CX0 P w K mg base N_shape_knots "shape_knots" (defScope s_shape_knots) f cd A outer s H E).nox (defBody s_shape_knots) (t_shape_knots K cS cP sp_knots_in sp_are_knots_right sp_has_needless_knot sp_knot_order sp_shape_of_knots) := by
  have nd : N_shape_knots.Nodup := by decide +kernel
  exact (pss_cons (ps_set (i := 1) nd rfl (Or.inl rfl) (pe_ifExp (pt_val (pe_callB call_isi (by rfl) T.isinstance (by decide +kernel) (pa_cons (pv 0) (pa_cons (pe_bltn (v := .ty "str") rfl T.str (by decide +kernel) rfl) pa_nil)))) (pe_cal c_knots_in (hr.mono (by decide)) (by rfl) (pa_cons (pv 0) pa_nil)) pe_non))
    (pss_cons (ps_if (PW.pt (pw_or (pt_cmp (pc_isN (pv 1))) (pw_or (pt_not (pt_val (pe_cal c_are_knots_right (hr.mono (by decide)) (by rfl) (pa_cons (pv 1) pa_nil)))) (pw_or1 (pt_val (pe_cal c_has_needless_knot (hr.mono (by decide)) (by rfl) (pa_cons (pv 1) pa_nil))))))) (pss_one (ps_ret pe_non)) pss_nil)
    (pss_cons (ps_set (i := 2) nd rfl (Or.inl rfl) (pe_cal c_knot_order (hr.mono (by decide)) (by rfl) (pa_cons (pv 1) pa_nil)))
    (pss_cons (ps_if (PW.pt (pw_or (pt_cmpR (op_neD hr.units) (pv 2) (pe_listRg rfl rfl T.list (prg_1 rfl T.range (pe_callB call_len_seq (by rfl) T.len (by decide +kernel) (pa_cons (pv 1) pa_nil)))) (nomark _)) (pw_or1 (pt_cmpR op_ne (pe_cal c_shape_of_knots (hr.mono (by decide)) (by rfl) (pa_cons (pv 1) (pa_cons (pv 2) pa_nil))) (pv 0) (nomark _))))) (pss_one (ps_ret pe_non)) pss_nil)
    (pss_one (ps_ret (pv 1)))))))
-- level 2
theorem sc_are_name_pairs : FnScope N_are_name_pairs ["value"] (defScope s_are_name_pairs) := ⟨rfl, rfl, rfl, by decide +kernel, rfl, by decide +kernel, by decide +kernel⟩
theorem der_are_name_pairs {P : Program} {w : World} {K : PySem.W.Frag} {mg : Str → Option Value} {base : Heap} {cS cP f : Addr} {cd : Value} {A : Around} {outer : List Env} {s : Shared} {H : Hp} {E : XK} {sp_is_pair sp_is_letter sp_is_place : Sp} (T : Txt K mg cS cP) (c_is_pair : Cal P w K mg base 1 "is_pair" ["value"] sp_is_pair) (c_is_letter : Cal P w K mg base 1 "is_letter" ["value"] sp_is_letter) (c_is_place : Cal P w K mg base 3 "is_place" ["value"] sp_is_place)
    (hr : Room 3 (A.deeper (envOfC "are_name_pairs" (defScope s_are_name_pairs) s.heap.objs.size f cd))) :
    PSs (cxOf CX0 P w K mg base N_are_name_pairs "are_name_pairs" (defScope s_are_name_pairs) f cd A outer s H E).nox (defBody s_are_name_pairs) (t_are_name_pairs K cS cP sp_is_pair sp_is_letter sp_is_place) := by
  have nd : N_are_name_pairs.Nodup := by decide +kernel
  exact (pss_cons (ps_if (PW.pt (pw_or (pt_not (pt_val (pe_callB call_isi (by rfl) T.isinstance (by decide +kernel) (pa_cons (pv 0) (pa_cons (pe_bltn (v := .ty "tuple") rfl T.tuple (by decide +kernel) rfl) pa_nil))))) (pw_or1 (pt_not (pt_chain op_le op_le pe_int (pe_callB call_len_seq (by rfl) T.len (by decide +kernel) (pa_cons (pv 0) pa_nil)) (pe_gint rfl T.MOST_NAMES)))))) (pss_one (ps_ret pe_bl)) pss_nil)
    (pss_cons (ps_set (i := 1) nd rfl (Or.inl rfl) pe_str)
    (pss_cons (ps_for PassesOwn.never rfl (pi_tup (pv 0)) (pg_name (i := 2) nd rfl (Or.inl rfl))
    (pss_cons (ps_if (PW.pt (pw_or (pt_not (pt_val (pe_cal c_is_pair (hr.mono (by decide)) (by rfl) (pa_cons (pv 2) pa_nil)))) (pw_or (pt_not (pt_val (pe_cal c_is_letter (hr.mono (by decide)) (by rfl) (pa_cons (pe_ix ix_tup (pv 2) pe_int (fun _ _ => rfl)) pa_nil)))) (pw_or (pt_not (pt_val (pe_cal c_is_place (hr.mono (by decide)) (by rfl) (pa_cons (pe_ix ix_tup (pv 2) pe_int (fun _ _ => rfl)) pa_nil)))) (pw_or1 (pt_cmpR op_le_str (pe_ix ix_tup (pv 2) pe_int (fun _ _ => rfl)) (pv 1) (nomark _))))))) (pss_one (ps_ret pe_bl)) pss_nil)
    (pss_one (ps_set (i := 1) nd rfl (Or.inl rfl) (pe_ix ix_tup (pv 2) pe_int (fun _ _ => rfl))))))
    (pss_one (ps_ret pe_bl)))))
-- level 4
theorem sc_check_cells : FnScope N_check_cells ["value"] (defScope s_check_cells) := ⟨rfl, rfl, rfl, by decide +kernel, rfl, by decide +kernel, by decide +kernel⟩
theorem der_check_cells {P : Program} {w : World} {K : PySem.W.Frag} {mg : Str → Option Value} {base : Heap} {cS cP f : Addr} {cd : Value} {A : Around} {outer : List Env} {s : Shared} {H : Hp} {E : XK} {sp_is_pair sp_is_place : Sp} (T : Txt K mg cS cP) (c_is_pair : Cal P w K mg base 1 "is_pair" ["value"] sp_is_pair) (c_is_place : Cal P w K mg base 3 "is_place" ["value"] sp_is_place)
    (hr : Room 3 (A.deeper (envOfC "check_cells" (defScope s_check_cells) s.heap.objs.size f cd))) :
    PSs (cxOf CX0 P w K mg base N_check_cells "check_cells" (defScope s_check_cells) f cd A outer s H E).nox (defBody s_check_cells) (t_check_cells K cS cP sp_is_pair sp_is_place) := by
  have nd : N_check_cells.Nodup := by decide +kernel
  exact (pss_cons (ps_if (pt_not (pt_val (pe_callB call_isi (by rfl) T.isinstance (by decide +kernel) (pa_cons (pv 0) (pa_cons (pe_bltn (v := .ty "tuple") rfl T.tuple (by decide +kernel) rfl) pa_nil))))) (pss_one ps_never) pss_nil)
    (pss_cons (ps_set (i := 1) nd rfl (Or.inl rfl) (pe_gint rfl T.END))
    (pss_one (ps_for PassesOwn.never rfl (pi_enumT (by rfl) T.enumerate (pa_cons (pv 0) pa_nil)) (pg_tup rfl (pgs_cons (pg_name (i := 2) nd rfl (Or.inl rfl)) (pgs_cons (pg_name (i := 3) nd rfl (Or.inl rfl)) pgs_nil)))
    (pss_cons (ps_if (PW.pt (pw_or (pt_cmpR op_eq (pv 2) (pe_gint rfl T.MOST_CELLS) (nomark _)) (pw_or (pt_not (pt_val (pe_cal c_is_pair (hr.mono (by decide)) (by rfl) (pa_cons (pv 3) pa_nil)))) (pw_or (pt_not (pt_val (pe_cal c_is_place (hr.mono (by decide)) (by rfl) (pa_cons (pe_ix ix_tup (pv 3) pe_int (fun _ _ => rfl)) pa_nil)))) (pw_or1 (pt_not (pt_val (pe_cal c_is_place (hr.mono (by decide)) (by rfl) (pa_cons (pe_ix ix_tup (pv 3) pe_int (fun _ _ => rfl)) pa_nil))))))))) (pss_one ps_never) pss_nil)
    (pss_cons (ps_if (pt_cmpR op_le (pe_ix ix_tup (pv 3) pe_int (fun _ _ => rfl)) (pv 1) (nomark _)) (pss_one ps_never) pss_nil)
    (pss_one (ps_set (i := 1) nd rfl (Or.inl rfl) (pe_ix ix_tup (pv 3) pe_int (fun _ _ => rfl))))))))))
-- level 4
theorem sc_Store_init : FnScope N_Store_init ["self", "names", "cells"] (defScope s_Store_init) := ⟨rfl, rfl, rfl, by decide +kernel, rfl, by decide +kernel, by decide +kernel⟩
theorem der_Store_init {P : Program} {w : World} {K : PySem.W.Frag} {mg : Str → Option Value} {base : Heap} {cS cP f : Addr} {cd : Value} {A : Around} {outer : List Env} {s : Shared} {H : Hp} {E : XK} {sp_are_name_pairs sp_check_cells : Sp} (T : Txt K mg cS cP) (c_are_name_pairs : Cal P w K mg base 4 "are_name_pairs" ["value"] sp_are_name_pairs) (c_check_cells : Cal P w K mg base 4 "check_cells" ["value"] sp_check_cells)
    (hr : Room 4 (A.deeper (envOfC "Store.__init__" (defScope s_Store_init) s.heap.objs.size f cd))) :
    PSs (cxOf CX0 P w K mg base N_Store_init "Store.__init__" (defScope s_Store_init) f cd A outer s H E).nox (defBody s_Store_init) (t_Store_init K cS cP sp_are_name_pairs sp_check_cells) := by
  have nd : N_Store_init.Nodup := by decide +kernel
  exact (pss_cons (ps_if (pt_not (pt_val (pe_cal c_are_name_pairs (hr.mono (by decide)) (by rfl) (pa_cons (pv 1) pa_nil)))) (pss_one ps_never) pss_nil)
    (pss_cons (ps_expr (pe_cal c_check_cells (hr.mono (by decide)) (by rfl) (pa_cons (pv 2) pa_nil)))
    (pss_cons (ps_fld (pv 0) (pv 1) rfl)
    (pss_cons (ps_fld (pv 0) (pv 2) rfl)
    (pss_cons (ps_fld (pv 0) (pe_callTy (call_dictT rfl) (by rfl) T.dict (by decide +kernel) (pa_cons (pv 1) pa_nil)) rfl)
    (pss_cons (ps_fld (pv 0) (pe_callTy (call_dictT rfl) (by rfl) T.dict (by decide +kernel) (pa_cons (pv 2) pa_nil)) rfl)
    (pss_one (ps_fld (pv 0) (pe_join pe_str (pe_lc (own := [("letter", 3), ("place", 4)]) (g := (gTup K 2 (gCons (gName 3) (gCons (gName 4) gNil)))) (tt := tYes) (te := (tVar 3)) rfl nd (pi_tup (pv 1)) (blkOk_by (own := [("letter", 3), ("place", 4)]) (N := N_Store_init) (sc := defScope s_Store_init) (by decide +kernel)) (fun _ _ _ _ _ => (pg_tup rfl (pgs_cons (pg_name (i := 3) nd rfl (Or.inl rfl)) (pgs_cons (pg_name (i := 4) nd rfl (Or.inl rfl)) pgs_nil)))) (fun _ _ _ _ _ => pts_nil) (fun _ _ _ _ _ => (pv 3)))) rfl))))))))
-- level 5
theorem sc_check_store : FnScope N_check_store ["value"] (defScope s_check_store) := ⟨rfl, rfl, rfl, by decide +kernel, rfl, by decide +kernel, by decide +kernel⟩
theorem der_check_store {P : Program} {w : World} {K : PySem.W.Frag} {mg : Str → Option Value} {base : Heap} {cS cP f : Addr} {cd : Value} {A : Around} {outer : List Env} {s : Shared} {H : Hp} {E : XK} (T : Txt K mg cS cP)
    (hr : Room 0 (A.deeper (envOfC "check_store" (defScope s_check_store) s.heap.objs.size f cd))) :
    PSs (cxOf CX0 P w K mg base N_check_store "check_store" (defScope s_check_store) f cd A outer s H E).nox (defBody s_check_store) (t_check_store K cS cP ) := by
  have nd : N_check_store.Nodup := by decide +kernel
  exact (pss_one (ps_if (pt_not (pt_val (pe_callB (C8.call_isC T.isStore) (by rfl) T.isinstance (by decide +kernel) (pa_cons (pv 0) (pa_cons (pe_glob rfl T.Store rfl) pa_nil))))) (pss_one ps_never) pss_nil))
-- level 1
theorem sc_reached_cells : FnScope N_reached_cells ["store"] (defScope s_reached_cells) := ⟨rfl, rfl, rfl, by decide +kernel, rfl, by decide +kernel, by decide +kernel⟩
theorem der_reached_cells {P : Program} {w : World} {K : PySem.W.Frag} {mg : Str → Option Value} {base : Heap} {cS cP f : Addr} {cd : Value} {A : Around} {outer : List Env} {s : Shared} {H : Hp} {E : XK} (T : Txt K mg cS cP)
    (hr : Room 0 (A.deeper (envOfC "reached_cells" (defScope s_reached_cells) s.heap.objs.size f cd))) :
    PSs (cxOf CX0 P w K mg base N_reached_cells "reached_cells" (defScope s_reached_cells) f cd A outer s H E).nox (defBody s_reached_cells) (t_reached_cells K cS cP ) := by
  have nd : N_reached_cells.Nodup := by decide +kernel
  exact (pss_cons (ps_set (i := 1) nd rfl (Or.inl rfl) pe_dnewK)
    (pss_cons (ps_for PassesOwn.never rfl (pi_tup (pe_fld (pv 0) rfl)) (pg_tup rfl (pgs_cons (pg_name (i := 2) nd rfl (Or.inl rfl)) (pgs_cons (pg_name (i := 3) nd rfl (Or.inl rfl)) pgs_nil)))
    (pss_one (ps_while PassesOwn.never (PW.pt (pw_and (pt_cmp (pc_din (hu_of hr) (pv 3) (pe_fld (pv 0) rfl))) (pw_and1 (pt_cmp (pc_dnotin (hu_of hr) (pv 3) (pv 1)))))) (pss_cons (ps_dput (hu_of hr) (pv 1) (pv 3) pe_bl rfl)
    (pss_one (ps_set (i := 3) nd rfl (Or.inl rfl) (pe_dget (hu_of hr) (pe_fld (pv 0) rfl) (pv 3) (fun _ _ => rfl))))))))
    (pss_one (ps_ret (pv 1)))))
-- level 1
theorem sc_Plan_init : FnScope N_Plan_init ["self", "shape", "lengths", "lost"] (defScope s_Plan_init) := ⟨rfl, rfl, rfl, by decide +kernel, rfl, by decide +kernel, by decide +kernel⟩
theorem der_Plan_init {P : Program} {w : World} {K : PySem.W.Frag} {mg : Str → Option Value} {base : Heap} {cS cP f : Addr} {cd : Value} {A : Around} {outer : List Env} {s : Shared} {H : Hp} {E : XK} {sp_shape_knots sp_is_between : Sp} (T : Txt K mg cS cP) (c_shape_knots : Cal P w K mg base 2 "shape_knots" ["value"] sp_shape_knots) (c_is_between : Cal P w K mg base 2 "is_between" ["value", "low", "high"] sp_is_between)
    (hr : Room 2 (A.deeper (envOfC "Plan.__init__" (defScope s_Plan_init) s.heap.objs.size f cd))) :
    PSs (cxOf CX0 P w K mg base N_Plan_init "Plan.__init__" (defScope s_Plan_init) f cd A outer s H E).nox (defBody s_Plan_init) (t_Plan_init K cS cP sp_shape_knots sp_is_between) := by
  have nd : N_Plan_init.Nodup := by decide +kernel
  exact (pss_cons (ps_set (i := 4) nd rfl (Or.inl rfl) (pe_cal c_shape_knots (hr.mono (by decide)) (by rfl) (pa_cons (pv 1) pa_nil)))
    (pss_cons (ps_if (pt_cmp (pc_isN (pv 4))) (pss_one ps_never) pss_nil)
    (pss_cons (ps_set (i := 5) nd rfl (Or.inl rfl) (pe_callB call_len_seq (by rfl) T.len (by decide +kernel) (pa_cons (pe_lc (own := [("knot", 6)]) (g := (gName 6)) (tt := (tTest (tOp rEq (tOp (rIxL K) (tVar 6) (tC (.int 1))) (tC (.str ">"))))) (te := (tVar 6)) rfl nd (pi_list (pv 4)) (blkOk_by (own := [("knot", 6)]) (N := N_Plan_init) (sc := defScope s_Plan_init) (by decide +kernel)) (fun _ _ _ _ _ => (pg_name (i := 6) nd rfl (Or.inl rfl))) (fun _ _ _ _ _ => (pts_one (pt_cmpR op_eq (pe_ix ix_list (pv 6) pe_int (fun _ _ => rfl)) pe_str (nomark _)))) (fun _ _ _ _ _ => (pv 6))) pa_nil)))
    (pss_cons (ps_if (PW.pt (pw_or (pt_not (pt_val (pe_callB call_isi (by rfl) T.isinstance (by decide +kernel) (pa_cons (pv 2) (pa_cons (pe_bltn (v := .ty "tuple") rfl T.tuple (by decide +kernel) rfl) pa_nil))))) (pw_or1 (pt_cmpR op_ne (pe_callB call_len_seq (by rfl) T.len (by decide +kernel) (pa_cons (pv 2) pa_nil)) (pv 5) (nomark _))))) (pss_one ps_never) pss_nil)
    (pss_cons (ps_if (pt_not (pt_val (pe_callB (cr_all rfl) (by rfl) T.all (by decide +kernel) (pa_cons (pe_lc (own := [("length", 7)]) (g := (gName 7)) (tt := tYes) (te := (tCl sp_is_between (tCons (tVar 7) (tCons (tC (.int 1)) (tCons (tC (.int 1000000000000000000000000000000)) tNil))))) rfl nd (pi_tup (pv 2)) (blkOk_by (own := [("length", 7)]) (N := N_Plan_init) (sc := defScope s_Plan_init) (by decide +kernel)) (fun _ _ _ _ _ => (pg_name (i := 7) nd rfl (Or.inl rfl))) (fun _ _ _ _ _ => pts_nil) (fun _ _ _ _ _ => (pe_cal c_is_between (hr.mono (by decide)) (by rfl) (pa_cons (pv 7) (pa_cons pe_int (pa_cons (pe_gint rfl T.FAR) pa_nil)))))) pa_nil)))) (pss_one ps_never) pss_nil)
    (pss_cons (ps_if (pt_not (pt_val (pe_cal c_is_between (hr.mono (by decide)) (by rfl) (pa_cons (pv 3) (pa_cons pe_int (pa_cons (pe_gint rfl T.FAR) pa_nil)))))) (pss_one ps_never) pss_nil)
    (pss_cons (ps_fld (pv 0) (pv 1) rfl)
    (pss_cons (ps_fld (pv 0) (pv 2) rfl)
    (pss_cons (ps_fld (pv 0) (pv 3) rfl)
    (pss_one (ps_fld (pv 0) (pe_join pe_str (pe_callB cr_sortedS (by rfl) T.sorted (by decide +kernel) (pa_cons (pe_lc2 (own := [("knot", 6), ("letter", 8)]) (vs1 := [8]) (g := (gName 6)) (tt := tYes) (wi1 := (iStr (tOp (rIxL K) (tVar 6) (tC (.int 0))))) (g1 := (gName 8)) (tt1 := tYes) (te := (tVar 8)) rfl nd (pi_list (pv 4)) (blkOk_by (own := [("knot", 6), ("letter", 8)]) (N := N_Plan_init) (sc := defScope s_Plan_init) (by decide +kernel)) (by decide) (fun _ _ _ _ _ => (pg_name (i := 6) nd rfl (Or.inl rfl))) (fun _ _ _ _ _ => pts_nil) (fun _ _ _ _ _ => (pi_str (pe_ix ix_list (pv 6) pe_int (fun _ _ => rfl)))) (fun _ _ _ _ _ => (pg_name (i := 8) nd rfl (Or.inl rfl))) (fun _ _ _ _ _ => pts_nil) (fun _ _ _ _ _ => (pv 8))) pa_nil))) rfl)))))))))))
-- level 3
theorem sc_Plan_eq : FnScope N_Plan_eq ["self", "other"] (defScope s_Plan_eq) := ⟨rfl, rfl, rfl, by decide +kernel, rfl, by decide +kernel, by decide +kernel⟩
theorem der_Plan_eq {P : Program} {w : World} {K : PySem.W.Frag} {mg : Str → Option Value} {base : Heap} {cS cP f : Addr} {cd : Value} {A : Around} {outer : List Env} {s : Shared} {H : Hp} {E : XK} (T : Txt K mg cS cP)
    (hr : Room 0 (A.deeper (envOfC "Plan.__eq__" (defScope s_Plan_eq) s.heap.objs.size f cd))) :
    PSs (cxOf CX0 P w K mg base N_Plan_eq "Plan.__eq__" (defScope s_Plan_eq) f cd A outer s H E).nox (defBody s_Plan_eq) (t_Plan_eq K cS cP ) := by
  have nd : N_Plan_eq.Nodup := by decide +kernel
  exact (pss_cons (ps_if (pt_not (pt_val (pe_callB (C8.call_isC T.isPlan) (by rfl) T.isinstance (by decide +kernel) (pa_cons (pv 1) (pa_cons (pe_glob rfl T.Plan rfl) pa_nil))))) (pss_one (ps_ret pe_bl)) pss_nil)
    (pss_one (ps_ret (pe_and (pe_cmpR op_eq (pe_fld (pv 0) rfl) (pe_fld (pv 1) rfl) (nomark _)) (pe_and (pe_cmpR (op_eqD hr.units) (pe_fld (pv 0) rfl) (pe_fld (pv 1) rfl) (nomark _)) (pe_one (pe_cmpR op_eq (pe_fld (pv 0) rfl) (pe_fld (pv 1) rfl) (nomark _))))))))
-- level 1
theorem sc_Plan_size : FnScope N_Plan_size ["self"] (defScope s_Plan_size) := ⟨rfl, rfl, rfl, by decide +kernel, rfl, by decide +kernel, by decide +kernel⟩
theorem der_Plan_size {P : Program} {w : World} {K : PySem.W.Frag} {mg : Str → Option Value} {base : Heap} {cS cP f : Addr} {cd : Value} {A : Around} {outer : List Env} {s : Shared} {H : Hp} {E : XK} (T : Txt K mg cS cP)
    (hr : Room 0 (A.deeper (envOfC "Plan.size" (defScope s_Plan_size) s.heap.objs.size f cd))) :
    PSs (cxOf CX0 P w K mg base N_Plan_size "Plan.size" (defScope s_Plan_size) f cd A outer s H E).nox (defBody s_Plan_size) (t_Plan_size K cS cP ) := by
  have nd : N_Plan_size.Nodup := by decide +kernel
  exact (pss_one (ps_ret (pe_op op_add (pe_callB cr_sumA (by rfl) T.sum (by decide +kernel) (pa_cons (pe_fld (pv 0) rfl) pa_nil)) (pe_fld (pv 0) rfl))))
-- level 1
theorem sc_Plan_text : FnScope N_Plan_text ["self"] (defScope s_Plan_text) := ⟨rfl, rfl, rfl, by decide +kernel, rfl, by decide +kernel, by decide +kernel⟩
theorem der_Plan_text {P : Program} {w : World} {K : PySem.W.Frag} {mg : Str → Option Value} {base : Heap} {cS cP f : Addr} {cd : Value} {A : Around} {outer : List Env} {s : Shared} {H : Hp} {E : XK} (T : Txt K mg cS cP)
    (hr : Room 0 (A.deeper (envOfC "Plan.text" (defScope s_Plan_text) s.heap.objs.size f cd))) :
    PSs (cxOf CX0 P w K mg base N_Plan_text "Plan.text" (defScope s_Plan_text) f cd A outer s H E).nox (defBody s_Plan_text) (t_Plan_text K cS cP ) := by
  have nd : N_Plan_text.Nodup := by decide +kernel
  exact (pss_cons (ps_set (i := 1) nd rfl (Or.inl rfl) (pe_join pe_str (pe_lc (own := [("length", 2)]) (g := (gName 2)) (tt := tYes) (te := (tCB rStrI (tCons (tVar 2) tNil))) rfl nd (pi_tup (pe_fld (pv 0) rfl)) (blkOk_by (own := [("length", 2)]) (N := N_Plan_text) (sc := defScope s_Plan_text) (by decide +kernel)) (fun _ _ _ _ _ => (pg_name (i := 2) nd rfl (Or.inl rfl))) (fun _ _ _ _ _ => pts_nil) (fun _ _ _ _ _ => (pe_callTy call_str_int (by rfl) T.str (by decide +kernel) (pa_cons (pv 2) pa_nil))))))
    (pss_one (ps_ret (pe_op op_add_str (pe_op op_add_str (pe_op op_add_str (pe_op op_add_str (pe_fld (pv 0) rfl) pe_str) (pe_ifExp (pt_cmpR op_ne (pv 1) pe_str (nomark _)) (pv 1) pe_str)) pe_str) (pe_callTy call_str_int (by rfl) T.str (by decide +kernel) (pa_cons (pe_fld (pv 0) rfl) pa_nil))))))
-- level 1
theorem sc_check_plan : FnScope N_check_plan ["value"] (defScope s_check_plan) := ⟨rfl, rfl, rfl, by decide +kernel, rfl, by decide +kernel, by decide +kernel⟩
theorem der_check_plan {P : Program} {w : World} {K : PySem.W.Frag} {mg : Str → Option Value} {base : Heap} {cS cP f : Addr} {cd : Value} {A : Around} {outer : List Env} {s : Shared} {H : Hp} {E : XK} (T : Txt K mg cS cP)
    (hr : Room 0 (A.deeper (envOfC "check_plan" (defScope s_check_plan) s.heap.objs.size f cd))) :
    PSs (cxOf CX0 P w K mg base N_check_plan "check_plan" (defScope s_check_plan) f cd A outer s H E).nox (defBody s_check_plan) (t_check_plan K cS cP ) := by
  have nd : N_check_plan.Nodup := by decide +kernel
  exact (pss_one (ps_if (pt_not (pt_val (pe_callB (C8.call_isC T.isPlan) (by rfl) T.isinstance (by decide +kernel) (pa_cons (pv 0) (pa_cons (pe_glob rfl T.Plan rfl) pa_nil))))) (pss_one ps_never) pss_nil))
-- level 1
theorem sc_knot_places : FnScope N_knot_places ["store", "reached"] (defScope s_knot_places) := ⟨rfl, rfl, rfl, by decide +kernel, rfl, by decide +kernel, by decide +kernel⟩
theorem der_knot_places {P : Program} {w : World} {K : PySem.W.Frag} {mg : Str → Option Value} {base : Heap} {cS cP f : Addr} {cd : Value} {A : Around} {outer : List Env} {s : Shared} {H : Hp} {E : XK} (T : Txt K mg cS cP)
    (hr : Room 0 (A.deeper (envOfC "knot_places" (defScope s_knot_places) s.heap.objs.size f cd))) :
    PSs (cxOf CX0 P w K mg base N_knot_places "knot_places" (defScope s_knot_places) f cd A outer s H E).nox (defBody s_knot_places) (t_knot_places K cS cP ) := by
  have nd : N_knot_places.Nodup := by decide +kernel
  exact (pss_cons (ps_par (i := 2) (j := 3) rfl nd rfl rfl (by decide) rfl rfl (pa_cons pe_dnewK (pa_cons pe_dnewK pa_nil)) (by rfl))
    (pss_cons (ps_lock (ps_for PassesOwn.never rfl (pi_keys (pv 1)) (pg_name (i := 4) nd rfl (Or.inl rfl))
    (pss_cons (ps_set (i := 5) nd rfl (Or.inl rfl) (pe_dget (hu_of hr) (pe_fld (pv 0) rfl) (pv 4) (fun _ _ => rfl)))
    (pss_one (ps_dput (hu_of hr) (pv 2) (pv 5) (pe_op op_add (pe_dget2 (hu_of hr) (pv 2) (pv 5) pe_int ⟨rfl, rfl, rfl, rfl⟩) pe_int) rfl)))))
    (pss_cons (ps_for PassesOwn.never rfl (pi_tup (pe_fld (pv 0) rfl)) (pg_tup rfl (pgs_cons (pg_name (i := 6) nd rfl (Or.inl rfl)) (pgs_cons (pg_name (i := 7) nd rfl (Or.inl rfl)) pgs_nil)))
    (pss_one (ps_dput (hu_of hr) (pv 3) (pv 7) pe_bl rfl)))
    (pss_cons (ps_lock (ps_for PassesOwn.never rfl (pi_keys (pv 2)) (pg_name (i := 7) nd rfl (Or.inl rfl))
    (pss_one (ps_if (PW.pt (pw_or (pt_cmp (pc_dnotin (hu_of hr) (pv 7) (pe_fld (pv 0) rfl))) (pw_or1 (pt_cmpR op_gt (pe_dget (hu_of hr) (pv 2) (pv 7) (fun _ _ => rfl)) pe_int (nomark _))))) (pss_one (ps_dput (hu_of hr) (pv 3) (pv 7) pe_bl rfl)) pss_nil))))
    (pss_one (ps_ret (pv 3)))))))
-- level 1
theorem sc_ordered_knots : FnScope N_ordered_knots ["store", "places"] (defScope s_ordered_knots) := ⟨rfl, rfl, rfl, by decide +kernel, rfl, by decide +kernel, by decide +kernel⟩
theorem der_ordered_knots {P : Program} {w : World} {K : PySem.W.Frag} {mg : Str → Option Value} {base : Heap} {cS cP f : Addr} {cd : Value} {A : Around} {outer : List Env} {s : Shared} {H : Hp} {E : XK} (T : Txt K mg cS cP)
    (hr : Room 0 (A.deeper (envOfC "ordered_knots" (defScope s_ordered_knots) s.heap.objs.size f cd))) :
    PSs (cxOf CX0 P w K mg base N_ordered_knots "ordered_knots" (defScope s_ordered_knots) f cd A outer s H E).nox (defBody s_ordered_knots) (t_ordered_knots K cS cP ) := by
  have nd : N_ordered_knots.Nodup := by decide +kernel
  exact (pss_cons (ps_par (i := 2) (j := 3) rfl nd rfl rfl (by decide) rfl rfl (pa_cons pe_dnewK (pa_cons (pe_lst pa_nil) pa_nil)) (by rfl))
    (pss_cons (ps_for PassesOwn.never rfl (pi_tup (pe_fld (pv 0) rfl)) (pg_tup rfl (pgs_cons (pg_name (i := 4) nd rfl (Or.inl rfl)) (pgs_cons (pg_name (i := 5) nd rfl (Or.inl rfl)) pgs_nil)))
    (pss_one (ps_while PassesOwn.never (pt_cmp (pc_dnotin (hu_of hr) (pv 5) (pv 2))) (pss_cons (ps_if (pt_cmp (pc_din (hu_of hr) (pv 5) (pv 1))) (pss_cons (ps_dput (hu_of hr) (pv 2) (pv 5) pe_bl rfl)
    (pss_one (ps_expr (pe_bm PySem.F.plainAttrs_list PySem.F.slot_list_append PySem.F.type_list_append mt_append (pv 3) (pa_cons (pv 5) pa_nil))))) pss_nil)
    (pss_cons (ps_if (pt_cmp (pc_dnotin (hu_of hr) (pv 5) (pe_fld (pv 0) rfl))) (pss_one ps_break) pss_nil)
    (pss_one (ps_set (i := 5) nd rfl (Or.inl rfl) (pe_dget (hu_of hr) (pe_fld (pv 0) rfl) (pv 5) (fun _ _ => rfl)))))))))
    (pss_one (ps_ret (pv 3)))))
-- level 1
theorem sc_stretch_from : FnScope N_stretch_from ["store", "places", "place"] (defScope s_stretch_from) := ⟨rfl, rfl, rfl, by decide +kernel, rfl, by decide +kernel, by decide +kernel⟩
theorem der_stretch_from {P : Program} {w : World} {K : PySem.W.Frag} {mg : Str → Option Value} {base : Heap} {cS cP f : Addr} {cd : Value} {A : Around} {outer : List Env} {s : Shared} {H : Hp} {E : XK} (T : Txt K mg cS cP)
    (hr : Room 0 (A.deeper (envOfC "stretch_from" (defScope s_stretch_from) s.heap.objs.size f cd))) :
    PSs (cxOf CX0 P w K mg base N_stretch_from "stretch_from" (defScope s_stretch_from) f cd A outer s H E).nox (defBody s_stretch_from) (t_stretch_from K cS cP ) := by
  have nd : N_stretch_from.Nodup := by decide +kernel
  exact (pss_cons (ps_par (i := 3) (j := 4) rfl nd rfl rfl (by decide) rfl rfl (pa_cons (pe_lst (pa_cons (pv 2) pa_nil)) (pa_cons (pe_dget (hu_of hr) (pe_fld (pv 0) rfl) (pv 2) (fun _ _ => rfl)) pa_nil)) (by rfl))
    (pss_cons (ps_while PassesOwn.never (pt_cmp (pc_dnotin (hu_of hr) (pv 4) (pv 1))) (pss_cons (ps_expr (pe_bm PySem.F.plainAttrs_list PySem.F.slot_list_append PySem.F.type_list_append mt_append (pv 3) (pa_cons (pv 4) pa_nil)))
    (pss_one (ps_set (i := 4) nd rfl (Or.inl rfl) (pe_dget (hu_of hr) (pe_fld (pv 0) rfl) (pv 4) (fun _ _ => rfl))))))
    (pss_one (ps_ret (pe_tup (pa_cons (pe_callTy call_tupF (by rfl) T.tuple (by decide +kernel) (pa_cons (pv 3) pa_nil)) (pa_cons (pv 4) pa_nil)))))))
-- level 1
theorem sc_parts_of : FnScope N_parts_of ["store"] (defScope s_parts_of) := ⟨rfl, rfl, rfl, by decide +kernel, rfl, by decide +kernel, by decide +kernel⟩
theorem der_parts_of {P : Program} {w : World} {K : PySem.W.Frag} {mg : Str → Option Value} {base : Heap} {cS cP f : Addr} {cd : Value} {A : Around} {outer : List Env} {s : Shared} {H : Hp} {E : XK} {sp_knot_places sp_reached_cells sp_ordered_knots sp_stretch_from : Sp} (T : Txt K mg cS cP) (c_knot_places : Cal P w K mg base 1 "knot_places" ["store", "reached"] sp_knot_places) (c_reached_cells : Cal P w K mg base 1 "reached_cells" ["store"] sp_reached_cells) (c_ordered_knots : Cal P w K mg base 1 "ordered_knots" ["store", "places"] sp_ordered_knots) (c_stretch_from : Cal P w K mg base 1 "stretch_from" ["store", "places", "place"] sp_stretch_from)
    (hr : Room 1 (A.deeper (envOfC "parts_of" (defScope s_parts_of) s.heap.objs.size f cd))) :
    PSs (cxOf CX0 P w K mg base N_parts_of "parts_of" (defScope s_parts_of) f cd A outer s H E).nox (defBody s_parts_of) (t_parts_of K cS cP sp_knot_places sp_reached_cells sp_ordered_knots sp_stretch_from) := by
  have nd : N_parts_of.Nodup := by decide +kernel
  exact (pss_cons (ps_set (i := 1) nd rfl (Or.inr rfl) (pe_cal c_knot_places (hr.mono (by decide)) (by rfl) (pa_cons (pv 0) (pa_cons (pe_cal c_reached_cells (hr.mono (by decide)) (by rfl) (pa_cons (pv 0) pa_nil)) pa_nil))))
    (pss_cons (ps_set (i := 2) nd rfl (Or.inl rfl) (pe_cal c_ordered_knots (hr.mono (by decide)) (by rfl) (pa_cons (pv 0) (pa_cons (pv 1) pa_nil))))
    (pss_one (ps_ret (pe_tup (pa_cons (pv 2) (pa_cons (pe_lc (own := [("place", 3)]) (g := (gName 3)) (tt := (tB (tDIn (tVar 3) (tFld K (tVar 0) "arrows")))) (te := (tCl sp_stretch_from (tCons (tVar 0) (tCons (tVar 1) (tCons (tVar 3) tNil))))) rfl nd (pi_list (pv 2)) (blkOk_by (own := [("place", 3)]) (N := N_parts_of) (sc := defScope s_parts_of) (by decide +kernel)) (fun _ _ _ _ _ => (pg_name (i := 3) nd rfl (Or.inl rfl))) (fun _ _ _ _ _ => (pts_one (pt_cmp (pc_din (hu_of hr) (pv 3) (pe_fld (pv 0) rfl))))) (fun _ _ _ _ _ => (pe_cal c_stretch_from (hr.mono (by decide)) (by rfl) (pa_cons (pv 0) (pa_cons (pv 1) (pa_cons (pv 3) pa_nil)))))) pa_nil)))))))
-- level 2
theorem sc_knots_of : FnScope N_knots_of ["store"] (defScope s_knots_of) := ⟨rfl, rfl, rfl, by decide +kernel, rfl, by decide +kernel, by decide +kernel⟩
theorem der_knots_of {P : Program} {w : World} {K : PySem.W.Frag} {mg : Str → Option Value} {base : Heap} {cS cP f : Addr} {cd : Value} {A : Around} {outer : List Env} {s : Shared} {H : Hp} {E : XK} {sp_check_store sp_parts_of : Sp} (T : Txt K mg cS cP) (c_check_store : Cal P w K mg base 1 "check_store" ["value"] sp_check_store) (c_parts_of : Cal P w K mg base 2 "parts_of" ["store"] sp_parts_of)
    (hr : Room 2 (A.deeper (envOfC "knots_of" (defScope s_knots_of) s.heap.objs.size f cd))) :
    PSs (cxOf CX0 P w K mg base N_knots_of "knots_of" (defScope s_knots_of) f cd A outer s H E).nox (defBody s_knots_of) (t_knots_of K cS cP sp_check_store sp_parts_of) := by
  have nd : N_knots_of.Nodup := by decide +kernel
  exact (pss_cons (ps_expr (pe_cal c_check_store (hr.mono (by decide)) (by rfl) (pa_cons (pv 0) pa_nil)))
    (pss_one (ps_ret (pe_callTy call_tupF (by rfl) T.tuple (by decide +kernel) (pa_cons (pe_ix ix_tup (pe_cal c_parts_of (hr.mono (by decide)) (by rfl) (pa_cons (pv 0) pa_nil)) pe_int (fun _ _ => rfl)) pa_nil)))))
-- level 3
theorem sc_stretches_of : FnScope N_stretches_of ["store"] (defScope s_stretches_of) := ⟨rfl, rfl, rfl, by decide +kernel, rfl, by decide +kernel, by decide +kernel⟩
theorem der_stretches_of {P : Program} {w : World} {K : PySem.W.Frag} {mg : Str → Option Value} {base : Heap} {cS cP f : Addr} {cd : Value} {A : Around} {outer : List Env} {s : Shared} {H : Hp} {E : XK} {sp_check_store sp_parts_of : Sp} (T : Txt K mg cS cP) (c_check_store : Cal P w K mg base 1 "check_store" ["value"] sp_check_store) (c_parts_of : Cal P w K mg base 2 "parts_of" ["store"] sp_parts_of)
    (hr : Room 2 (A.deeper (envOfC "stretches_of" (defScope s_stretches_of) s.heap.objs.size f cd))) :
    PSs (cxOf CX0 P w K mg base N_stretches_of "stretches_of" (defScope s_stretches_of) f cd A outer s H E).nox (defBody s_stretches_of) (t_stretches_of K cS cP sp_check_store sp_parts_of) := by
  have nd : N_stretches_of.Nodup := by decide +kernel
  exact (pss_cons (ps_expr (pe_cal c_check_store (hr.mono (by decide)) (by rfl) (pa_cons (pv 0) pa_nil)))
    (pss_one (ps_ret (pe_callTy call_tupF (by rfl) T.tuple (by decide +kernel) (pa_cons (pe_lc (own := [("cells", 1), ("behind", 2)]) (g := (gTup K 2 (gCons (gName 1) (gCons (gName 2) gNil)))) (tt := tYes) (te := (tVar 1)) rfl nd (pi_list (pe_ix ix_tup (pe_cal c_parts_of (hr.mono (by decide)) (by rfl) (pa_cons (pv 0) pa_nil)) pe_int (fun _ _ => rfl))) (blkOk_by (own := [("cells", 1), ("behind", 2)]) (N := N_stretches_of) (sc := defScope s_stretches_of) (by decide +kernel)) (fun _ _ _ _ _ => (pg_tup rfl (pgs_cons (pg_name (i := 1) nd rfl (Or.inl rfl)) (pgs_cons (pg_name (i := 2) nd rfl (Or.inl rfl)) pgs_nil)))) (fun _ _ _ _ _ => pts_nil) (fun _ _ _ _ _ => (pv 1))) pa_nil)))))
-- level 3
theorem sc_plan_of : FnScope N_plan_of ["store"] (defScope s_plan_of) := ⟨rfl, rfl, rfl, by decide +kernel, rfl, by decide +kernel, by decide +kernel⟩
theorem der_plan_of {P : Program} {w : World} {K : PySem.W.Frag} {mg : Str → Option Value} {base : Heap} {cS cP f : Addr} {cd : Value} {A : Around} {outer : List Env} {s : Shared} {H : Hp} {E : XK} {sp_check_store sp_parts_of sp_Plan_init sp_shape_of_knots : Sp} (T : Txt K mg cS cP) (c_check_store : Cal P w K mg base 1 "check_store" ["value"] sp_check_store) (c_parts_of : Cal P w K mg base 2 "parts_of" ["store"] sp_parts_of) (c_Plan_init : CalMk P w K mg base 3 cP ["self", "shape", "lengths", "lost"] sp_Plan_init) (c_shape_of_knots : Cal P w K mg base 1 "shape_of_knots" ["knots", "order"] sp_shape_of_knots)
    (hr : Room 4 (A.deeper (envOfC "plan_of" (defScope s_plan_of) s.heap.objs.size f cd))) :
    PSs (cxOf CX0 P w K mg base N_plan_of "plan_of" (defScope s_plan_of) f cd A outer s H E).nox (defBody s_plan_of) (t_plan_of K cS cP sp_check_store sp_parts_of sp_Plan_init sp_shape_of_knots) := by
  have nd : N_plan_of.Nodup := by decide +kernel
  exact (pss_cons (ps_expr (pe_cal c_check_store (hr.mono (by decide)) (by rfl) (pa_cons (pv 0) pa_nil)))
    (pss_cons (ps_asg (pe_cal c_parts_of (hr.mono (by decide)) (by rfl) (pa_cons (pv 0) pa_nil)) (pg_tup rfl (pgs_cons (pg_name (i := 1) nd rfl (Or.inl rfl)) (pgs_cons (pg_name (i := 2) nd rfl (Or.inl rfl)) pgs_nil))))
    (pss_cons (ps_par3 (i := 3) (j := 4) (l := 5) rfl nd rfl rfl rfl (by decide) (by decide) (by decide) rfl rfl rfl (pa_cons pe_dnewK (pa_cons pe_dnewK (pa_cons (pe_lst pa_nil) pa_nil))) (by rfl))
    (pss_cons (ps_for PassesOwn.never rfl (pi_enum (by rfl) T.enumerate (pa_cons (pv 1) pa_nil)) (pg_tup rfl (pgs_cons (pg_name (i := 6) nd rfl (Or.inl rfl)) (pgs_cons (pg_name (i := 7) nd rfl (Or.inr rfl)) pgs_nil)))
    (pss_one (ps_dput (hu_of hr) (pv 3) (pv 7) (pv 6) rfl)))
    (pss_cons (ps_for PassesOwn.never rfl (pi_list (pv 2)) (pg_tup rfl (pgs_cons (pg_name (i := 8) nd rfl (Or.inl rfl)) (pgs_cons (pg_name (i := 9) nd rfl (Or.inl rfl)) pgs_nil)))
    (pss_one (ps_dput (hu_of hr) (pv 4) (pe_ix ix_tup (pv 8) pe_int (fun _ _ => rfl)) (pe_dget (hu_of hr) (pv 3) (pv 9) (fun _ _ => rfl)) rfl)))
    (pss_cons (ps_for PassesOwn.never rfl (pi_list (pv 1)) (pg_name (i := 7) nd rfl (Or.inr rfl))
    (pss_cons (ps_set (i := 10) nd rfl (Or.inl rfl) (pe_join pe_str (pe_lc (own := [("letter", 13), ("led", 14)]) (g := (gTup K 2 (gCons (gName 13) (gCons (gName 14) gNil)))) (tt := (tTest (tOp rEq (tVar 14) (tVar 7)))) (te := (tVar 13)) rfl nd (pi_tup (pe_fld (pv 0) rfl)) (blkOk_by (own := [("letter", 13), ("led", 14)]) (N := N_plan_of) (sc := defScope s_plan_of) (by decide +kernel)) (fun _ _ _ _ _ => (pg_tup rfl (pgs_cons (pg_name (i := 13) nd rfl (Or.inl rfl)) (pgs_cons (pg_name (i := 14) nd rfl (Or.inl rfl)) pgs_nil)))) (fun _ _ _ _ _ => (pts_one (pt_cmpR op_eq (pv 14) (pv 7) (nomark _)))) (fun _ _ _ _ _ => (pv 13)))))
    (pss_cons (ps_set (i := 11) nd rfl (Or.inl rfl) (pe_ifExp (pt_cmp (pc_din (hu_of hr) (pv 7) (pv 4))) pe_str (pe_ifExp (pt_cmpR op_eq (pv 7) (pe_gint rfl T.END) (nomark _)) pe_str pe_str)))
    (pss_one (ps_expr (pe_bm PySem.F.plainAttrs_list PySem.F.slot_list_append PySem.F.type_list_append mt_append (pv 5) (pa_cons (pe_lst (pa_cons (pv 10) (pa_cons (pv 11) (pa_cons (pe_dget1 (hu_of hr) (pv 4) (pv 7) ⟨rfl, rfl, rfl, rfl⟩) pa_nil)))) pa_nil)))))))
    (pss_cons (ps_set (i := 12) nd rfl (Or.inl rfl) (pe_callTy call_tupF (by rfl) T.tuple (by decide +kernel) (pa_cons (pe_lc (own := [("cells", 8), ("behind", 9)]) (g := (gTup K 2 (gCons (gName 8) (gCons (gName 9) gNil)))) (tt := tYes) (te := (tCB (rLenQ K) (tCons (tVar 8) tNil))) rfl nd (pi_list (pv 2)) (blkOk_by (own := [("cells", 8), ("behind", 9)]) (N := N_plan_of) (sc := defScope s_plan_of) (by decide +kernel)) (fun _ _ _ _ _ => (pg_tup rfl (pgs_cons (pg_name (i := 8) nd rfl (Or.inl rfl)) (pgs_cons (pg_name (i := 9) nd rfl (Or.inl rfl)) pgs_nil)))) (fun _ _ _ _ _ => pts_nil) (fun _ _ _ _ _ => (pe_callB call_len_seq (by rfl) T.len (by decide +kernel) (pa_cons (pv 8) pa_nil)))) pa_nil)))
    (pss_one (ps_ret (pe_mk c_Plan_init (hr.mono (by decide)) rfl T.Plan (pa_cons (pe_cal c_shape_of_knots (hr.mono (by decide)) (by rfl) (pa_cons (pv 5) (pa_cons (pe_listRg rfl rfl T.list (prg_1 rfl T.range (pe_callB call_len_seq (by rfl) T.len (by decide +kernel) (pa_cons (pv 5) pa_nil)))) pa_nil))) (pa_cons (pv 12) (pa_cons (pe_op op_sub (pe_callB call_len_seq (by rfl) T.len (by decide +kernel) (pa_cons (pe_fld (pv 0) rfl) pa_nil)) (pe_callB cr_sumA (by rfl) T.sum (by decide +kernel) (pa_cons (pv 12) pa_nil))) pa_nil)))))))))))))
-- level 5
theorem sc_cells_along : FnScope N_cells_along ["plan", "knots", "places"] (defScope s_cells_along) := ⟨rfl, rfl, rfl, by decide +kernel, rfl, by decide +kernel, by decide +kernel⟩
theorem der_cells_along {P : Program} {w : World} {K : PySem.W.Frag} {mg : Str → Option Value} {base : Heap} {cS cP f : Addr} {cd : Value} {A : Around} {outer : List Env} {s : Shared} {H : Hp} {E : XK} (T : Txt K mg cS cP)
    (hr : Room 0 (A.deeper (envOfC "cells_along" (defScope s_cells_along) s.heap.objs.size f cd))) :
    PSs (cxOf CX0 P w K mg base N_cells_along "cells_along" (defScope s_cells_along) f cd A outer s H E).nox (defBody s_cells_along) (t_cells_along K cS cP ) := by
  have nd : N_cells_along.Nodup := by decide +kernel
  exact (pss_cons (ps_asg (pe_tup (pa_cons (pe_lst pa_nil) (pa_cons pe_int pa_nil))) (pg_tup rfl (pgs_cons (pg_name (i := 3) nd rfl (Or.inr rfl)) (pgs_cons (pg_name (i := 4) nd rfl (Or.inl rfl)) pgs_nil))))
    (pss_cons (ps_for PassesOwn.never rfl (pi_enum (by rfl) T.enumerate (pa_cons (pv 1) pa_nil)) (pg_tup rfl (pgs_cons (pg_name (i := 5) nd rfl (Or.inl rfl)) (pgs_cons (pg_name (i := 6) nd rfl (Or.inl rfl)) pgs_nil)))
    (pss_one (ps_if (pt_cmpR op_eq (pe_ix ix_list (pv 6) pe_int (fun _ _ => rfl)) pe_str (nomark _)) (pss_cons (ps_par (i := 7) (j := 8) rfl nd rfl rfl (by decide) rfl rfl (pa_cons (pe_ix ix_list (pv 2) (pv 5) (fun _ _ => rfl)) (pa_cons (pe_ix ix_tup (pe_fld (pv 0) rfl) (pv 4) (fun _ _ => rfl)) pa_nil)) (by rfl))
    (pss_cons (ps_expr (pe_bm PySem.F.plainAttrs_list PySem.F.slot_list_extend PySem.F.type_list_extend mt_extend (pv 3) (pa_cons (pe_lc (own := [("cell", 10)]) (g := (gName 10)) (tt := tYes) (te := (tTup (tCons (tVar 10) (tCons (tOp rAddI (tVar 10) (tC (.int 1))) tNil)))) rfl nd (pi_range2 (by rfl) T.range (pa_cons (pv 7) (pa_cons (pe_op op_sub (pe_op op_add (pv 7) (pv 8)) pe_int) pa_nil))) (blkOk_by (own := [("cell", 10)]) (N := N_cells_along) (sc := defScope s_cells_along) (by decide +kernel)) (fun _ _ _ _ _ => (pg_name (i := 10) nd rfl (Or.inl rfl))) (fun _ _ _ _ _ => pts_nil) (fun _ _ _ _ _ => (pe_tup (pa_cons (pv 10) (pa_cons (pe_op op_add (pv 10) pe_int) pa_nil))))) pa_nil)))
    (pss_cons (ps_expr (pe_bm PySem.F.plainAttrs_list PySem.F.slot_list_append PySem.F.type_list_append mt_append (pv 3) (pa_cons (pe_tup (pa_cons (pe_op op_sub (pe_op op_add (pv 7) (pv 8)) pe_int) (pa_cons (pe_ix ix_list (pv 2) (pe_ix ix_list (pv 6) pe_int (fun _ _ => rfl)) (fun _ _ => rfl)) pa_nil))) pa_nil)))
    (pss_one (ps_set (i := 4) nd rfl (Or.inl rfl) (pe_op op_add (pv 4) pe_int)))))) pss_nil)))
    (pss_one (ps_ret (pe_callTy call_tupF (by rfl) T.tuple (by decide +kernel) (pa_cons (pe_op op_cat (pv 3) (pe_lc (own := [("far", 9)]) (g := (gName 9)) (tt := tYes) (te := (tTup (tCons (tOp rAddI (tOp rAddI (tCB (rLenQ K) (tCons (tVar 3) tNil)) (tC (.int 1))) (tVar 9)) (tCons (tC (.int 0)) tNil)))) rfl nd (pi_range1 (by rfl) T.range (pa_cons (pe_fld (pv 0) rfl) pa_nil)) (blkOk_by (own := [("far", 9)]) (N := N_cells_along) (sc := defScope s_cells_along) (by decide +kernel)) (fun _ _ _ _ _ => (pg_name (i := 9) nd rfl (Or.inl rfl))) (fun _ _ _ _ _ => pts_nil) (fun _ _ _ _ _ => (pe_tup (pa_cons (pe_op op_add (pe_op op_add (pe_callB call_len_seq (by rfl) T.len (by decide +kernel) (pa_cons (pv 3) pa_nil)) pe_int) (pv 9)) (pa_cons (pe_gint rfl T.END) pa_nil)))))) pa_nil))))))
-- level 1
theorem sc_names_at : FnScope N_names_at ["knots", "places"] (defScope s_names_at) := ⟨rfl, rfl, rfl, by decide +kernel, rfl, by decide +kernel, by decide +kernel⟩
theorem der_names_at {P : Program} {w : World} {K : PySem.W.Frag} {mg : Str → Option Value} {base : Heap} {cS cP f : Addr} {cd : Value} {A : Around} {outer : List Env} {s : Shared} {H : Hp} {E : XK} (T : Txt K mg cS cP)
    (hr : Room 0 (A.deeper (envOfC "names_at" (defScope s_names_at) s.heap.objs.size f cd))) :
    PSs (cxOf CX0 P w K mg base N_names_at "names_at" (defScope s_names_at) f cd A outer s H E).nox (defBody s_names_at) (t_names_at K cS cP ) := by
  have nd : N_names_at.Nodup := by decide +kernel
  exact (pss_one (ps_ret (pe_callTy call_tupF (by rfl) T.tuple (by decide +kernel) (pa_cons (pe_callB (cr_sortedN hr) (by rfl) T.sorted (by decide +kernel) (pa_cons (pe_lc2 (own := [("index", 2), ("knot", 3), ("letter", 4)]) (vs1 := [4]) (g := (gTup K 2 (gCons (gName 2) (gCons (gName 3) gNil)))) (tt := tYes) (wi1 := (iStr (tOp (rIxL K) (tVar 3) (tC (.int 0))))) (g1 := (gName 4)) (tt1 := tYes) (te := (tTup (tCons (tVar 4) (tCons (tOp (rIxL K) (tVar 1) (tVar 2)) tNil)))) rfl nd (pi_enum (by rfl) T.enumerate (pa_cons (pv 0) pa_nil)) (blkOk_by (own := [("index", 2), ("knot", 3), ("letter", 4)]) (N := N_names_at) (sc := defScope s_names_at) (by decide +kernel)) (by decide) (fun _ _ _ _ _ => (pg_tup rfl (pgs_cons (pg_name (i := 2) nd rfl (Or.inl rfl)) (pgs_cons (pg_name (i := 3) nd rfl (Or.inl rfl)) pgs_nil)))) (fun _ _ _ _ _ => pts_nil) (fun _ _ _ _ _ => (pi_str (pe_ix ix_list (pv 3) pe_int (fun _ _ => rfl)))) (fun _ _ _ _ _ => (pg_name (i := 4) nd rfl (Or.inl rfl))) (fun _ _ _ _ _ => pts_nil) (fun _ _ _ _ _ => (pe_tup (pa_cons (pv 4) (pa_cons (pe_ix ix_list (pv 1) (pv 2) (fun _ _ => rfl)) pa_nil))))) pa_nil)) pa_nil))))
-- level 1
theorem sc_store_of : FnScope N_store_of ["plan"] (defScope s_store_of) := ⟨rfl, rfl, rfl, by decide +kernel, rfl, by decide +kernel, by decide +kernel⟩
theorem der_store_of {P : Program} {w : World} {K : PySem.W.Frag} {mg : Str → Option Value} {base : Heap} {cS cP f : Addr} {cd : Value} {A : Around} {outer : List Env} {s : Shared} {H : Hp} {E : XK} {sp_check_plan sp_Plan_size sp_knots_in sp_Store_init sp_cells_along sp_names_at : Sp} (T : Txt K mg cS cP) (c_check_plan : Cal P w K mg base 1 "check_plan" ["value"] sp_check_plan) (c_Plan_size : CalPr P w K mg base 1 cP "size" sp_Plan_size) (c_knots_in : Cal P w K mg base 1 "knots_in" ["shape"] sp_knots_in) (c_Store_init : CalMk P w K mg base 5 cS ["self", "names", "cells"] sp_Store_init) (c_cells_along : Cal P w K mg base 1 "cells_along" ["plan", "knots", "places"] sp_cells_along) (c_names_at : Cal P w K mg base 1 "names_at" ["knots", "places"] sp_names_at)
    (hr : Room 6 (A.deeper (envOfC "store_of" (defScope s_store_of) s.heap.objs.size f cd))) :
    PSs (cxOf CX0 P w K mg base N_store_of "store_of" (defScope s_store_of) f cd A outer s H E).nox (defBody s_store_of) (t_store_of K cS cP sp_check_plan sp_Plan_size sp_knots_in sp_Store_init sp_cells_along sp_names_at) := by
  have nd : N_store_of.Nodup := by decide +kernel
  exact (pss_cons (ps_expr (pe_cal c_check_plan (hr.mono (by decide)) (by rfl) (pa_cons (pv 0) pa_nil)))
    (pss_cons (ps_if (pt_cmpR op_gt (pe_prp c_Plan_size (hr.mono (by decide)) (pv 0) rfl) (pe_gint rfl T.MOST_CELLS) (nomark _)) (pss_one ps_never) pss_nil)
    (pss_cons (ps_asg (pe_tup (pa_cons (pe_cal c_knots_in (hr.mono (by decide)) (by rfl) (pa_cons (pe_fld (pv 0) rfl) pa_nil)) (pa_cons (pe_lst pa_nil) (pa_cons pe_int (pa_cons pe_int pa_nil))))) (pg_tup rfl (pgs_cons (pg_name (i := 1) nd rfl (Or.inl rfl)) (pgs_cons (pg_name (i := 2) nd rfl (Or.inl rfl)) (pgs_cons (pg_name (i := 3) nd rfl (Or.inl rfl)) (pgs_cons (pg_name (i := 4) nd rfl (Or.inl rfl)) pgs_nil))))))
    (pss_cons (ps_set (i := 5) nd rfl (Or.inl rfl) (pe_prp c_Plan_size (hr.mono (by decide)) (pv 0) rfl))
    (pss_cons (ps_for PassesOwn.never rfl (pi_list (pv 1)) (pg_unl rfl (pgs_cons (pg_name (i := 6) nd rfl (Or.inl rfl)) (pgs_cons (pg_name (i := 7) nd rfl (Or.inl rfl)) (pgs_cons (pg_name (i := 8) nd rfl (Or.inl rfl)) pgs_nil))))
    (pss_one (ps_if (pt_cmpR op_eq (pv 7) pe_str (nomark _)) (pss_cons (ps_expr (pe_bm PySem.F.plainAttrs_list PySem.F.slot_list_append PySem.F.type_list_append mt_append (pv 2) (pa_cons (pe_op op_add (pv 3) pe_int) pa_nil)))
    (pss_cons (ps_set (i := 3) nd rfl (Or.inl rfl) (pe_op op_add (pv 3) (pe_ix ix_tup (pe_fld (pv 0) rfl) (pv 4) (fun _ _ => rfl))))
    (pss_one (ps_set (i := 4) nd rfl (Or.inl rfl) (pe_op op_add (pv 4) pe_int))))) (pss_cons (ps_set (i := 5) nd rfl (Or.inl rfl) (pe_op op_add (pv 5) (pe_ifExp (pt_cmpR op_eq (pv 7) pe_str (nomark _)) pe_int pe_int)))
    (pss_one (ps_expr (pe_bm PySem.F.plainAttrs_list PySem.F.slot_list_append PySem.F.type_list_append mt_append (pv 2) (pa_cons (pe_ifExp (pt_cmpR op_eq (pv 7) pe_str (nomark _)) (pv 5) (pe_gint rfl T.END)) pa_nil))))))))
    (pss_one (ps_ret (pe_mk c_Store_init (hr.mono (by decide)) rfl T.Store (pa_cons (pe_cal c_names_at (hr.mono (by decide)) (by rfl) (pa_cons (pv 1) (pa_cons (pv 2) pa_nil))) (pa_cons (pe_cal c_cells_along (hr.mono (by decide)) (by rfl) (pa_cons (pv 0) (pa_cons (pv 1) (pa_cons (pv 2) pa_nil)))) pa_nil))))))))))
-- level 7
theorem sc_are_alike : FnScope N_are_alike ["store", "other"] (defScope s_are_alike) := ⟨rfl, rfl, rfl, by decide +kernel, rfl, by decide +kernel, by decide +kernel⟩
theorem der_are_alike {P : Program} {w : World} {K : PySem.W.Frag} {mg : Str → Option Value} {base : Heap} {cS cP f : Addr} {cd : Value} {A : Around} {outer : List Env} {s : Shared} {H : Hp} {E : XK} {sp_check_store sp_plan_of sp_Plan_eq : Sp} (T : Txt K mg cS cP) (c_check_store : Cal P w K mg base 1 "check_store" ["value"] sp_check_store) (c_plan_of : Cal P w K mg base 5 "plan_of" ["store"] sp_plan_of) (c_Plan_eq : CalEq P w K mg base 1 cP sp_Plan_eq)
    (hr : Room 5 (A.deeper (envOfC "are_alike" (defScope s_are_alike) s.heap.objs.size f cd))) :
    PSs (cxOf CX0 P w K mg base N_are_alike "are_alike" (defScope s_are_alike) f cd A outer s H E).nox (defBody s_are_alike) (t_are_alike K cS cP sp_check_store sp_plan_of sp_Plan_eq) := by
  have nd : N_are_alike.Nodup := by decide +kernel
  exact (pss_cons (ps_expr (pe_cal c_check_store (hr.mono (by decide)) (by rfl) (pa_cons (pv 0) pa_nil)))
    (pss_cons (ps_expr (pe_cal c_check_store (hr.mono (by decide)) (by rfl) (pa_cons (pv 1) pa_nil)))
    (pss_one (ps_ret (pe_cmpR (op_peq c_Plan_eq (hr.mono (by decide))) (pe_cal c_plan_of (hr.mono (by decide)) (by rfl) (pa_cons (pv 0) pa_nil)) (pe_cal c_plan_of (hr.mono (by decide)) (by rfl) (pa_cons (pv 1) pa_nil)) (nomark _))))))
-- level 6
theorem sc_tidy : FnScope N_tidy ["store"] (defScope s_tidy) := ⟨rfl, rfl, rfl, by decide +kernel, rfl, by decide +kernel, by decide +kernel⟩
theorem der_tidy {P : Program} {w : World} {K : PySem.W.Frag} {mg : Str → Option Value} {base : Heap} {cS cP f : Addr} {cd : Value} {A : Around} {outer : List Env} {s : Shared} {H : Hp} {E : XK} {sp_store_of sp_plan_of : Sp} (T : Txt K mg cS cP) (c_store_of : Cal P w K mg base 7 "store_of" ["plan"] sp_store_of) (c_plan_of : Cal P w K mg base 5 "plan_of" ["store"] sp_plan_of)
    (hr : Room 7 (A.deeper (envOfC "tidy" (defScope s_tidy) s.heap.objs.size f cd))) :
    PSs (cxOf CX0 P w K mg base N_tidy "tidy" (defScope s_tidy) f cd A outer s H E).nox (defBody s_tidy) (t_tidy K cS cP sp_store_of sp_plan_of) := by
  have nd : N_tidy.Nodup := by decide +kernel
  exact (pss_one (ps_ret (pe_cal c_store_of (hr.mono (by decide)) (by rfl) (pa_cons (pe_cal c_plan_of (hr.mono (by decide)) (by rfl) (pa_cons (pv 0) pa_nil)) pa_nil))))
-- level 8
theorem sc_law_jug : FnScope N_law_jug ["_law_script", "_law_turn"] (defScope s_law_jug) := ⟨rfl, rfl, rfl, by decide +kernel, rfl, by decide +kernel, by decide +kernel⟩
theorem der_law_jug {P : Program} {w : World} {K : PySem.W.Frag} {mg : Str → Option Value} {base : Heap} {cS cP f : Addr} {cd : Value} {A : Around} {outer : List Env} {s : Shared} {H : Hp} {E : XK} (T : Txt K mg cS cP)
    (hr : Room 0 (A.deeper (envOfC "_law_jug" (defScope s_law_jug) s.heap.objs.size f cd))) :
    PSs (cxOf CX0 P w K mg base N_law_jug "_law_jug" (defScope s_law_jug) f cd A outer s H E).nox (defBody s_law_jug) (t_law_jug K cS cP ) := by
  have nd : N_law_jug.Nodup := by decide +kernel
  exact (pss_cons (ps_set (i := 2) nd rfl (Or.inl rfl) (pe_op op_add pe_int (pe_op op_mul pe_int (pv 1))))
    (pss_cons (ps_for PassesOwn.never rfl (pi_list (pe_slice sl_list (pv 0) po_none (po_some pe_int))) (pg_name (i := 3) nd rfl (Or.inl rfl))
    (pss_one (ps_set (i := 2) nd rfl (Or.inl rfl) (pe_op op_mod (pe_callTy call_int1 (by rfl) T.int (by decide +kernel) (pa_cons (pe_op op_add (pe_op op_add (pe_op op_mul (pv 2) pe_int) (pe_op op_mul (pe_op op_mod (pe_callTy call_int1 (by rfl) T.int (by decide +kernel) (pa_cons (pv 3) pa_nil)) pe_int) pe_int)) pe_int) pa_nil)) pe_int))))
    (pss_cons (ps_set (i := 4) nd rfl (Or.inl rfl) (pe_ifExp (pt_cmpR op_lt (pv 1) (pe_callB call_len_seq (by rfl) T.len (by decide +kernel) (pa_cons (pv 0) pa_nil)) (nomark _)) (pe_callTy call_int1 (by rfl) T.int (by decide +kernel) (pa_cons (pe_ix ix_list (pv 0) (pv 1) (fun _ _ => rfl)) pa_nil)) (pv 2)))
    (pss_cons (ps_set (i := 5) nd rfl (Or.inl rfl) (pe_ifExp (pt_cmpR op_ge (pe_callB call_abs (by rfl) T.abs (by decide +kernel) (pa_cons (pv 4) pa_nil)) (pe_op op_pow pe_int pe_int) (nomark _)) (pe_callB call_abs (by rfl) T.abs (by decide +kernel) (pa_cons (pv 4) pa_nil)) pe_int))
    (pss_one (ps_ret (pe_lst (pa_cons (pv 5) (pa_cons (pe_op op_mod (pe_callTy call_int1 (by rfl) T.int (by decide +kernel) (pa_cons (pe_op op_add (pe_op op_add (pe_op op_mul (pv 2) pe_int) (pe_op op_mul (pe_op op_mod (pe_callTy call_int1 (by rfl) T.int (by decide +kernel) (pa_cons (pv 4) pa_nil)) pe_int) pe_int)) pe_int) pa_nil)) pe_int) (pa_cons pe_int pa_nil))))))))))
-- level 1
theorem sc_law_take : FnScope N_law_take ["_law_jug_here", "_law_many"] (defScope s_law_take) := ⟨rfl, rfl, rfl, by decide +kernel, rfl, by decide +kernel, by decide +kernel⟩
theorem der_law_take {P : Program} {w : World} {K : PySem.W.Frag} {mg : Str → Option Value} {base : Heap} {cS cP f : Addr} {cd : Value} {A : Around} {outer : List Env} {s : Shared} {H : Hp} {E : XK} (T : Txt K mg cS cP)
    (hr : Room 0 (A.deeper (envOfC "_law_take" (defScope s_law_take) s.heap.objs.size f cd))) :
    PSs (cxOf CX0 P w K mg base N_law_take "_law_take" (defScope s_law_take) f cd A outer s H E).nox (defBody s_law_take) (t_law_take K cS cP ) := by
  have nd : N_law_take.Nodup := by decide +kernel
  exact (pss_cons (ps_if (pt_cmpR op_gt (pe_ix ix_list (pv 0) pe_int (fun _ _ => rfl)) pe_int (nomark _)) (pss_cons (ps_asg (pe_callB call_divmodW (by rfl) T.divmod (by decide +kernel) (pa_cons (pe_ix ix_list (pv 0) pe_int (fun _ _ => rfl)) (pa_cons (pv 1) pa_nil))) (pg_tup rfl (pgs_cons (pg_sub (pv 0) pe_int set_list) (pgs_cons (pg_name (i := 2) nd rfl (Or.inl rfl)) pgs_nil))))
    (pss_one (ps_ret (pv 2)))) pss_nil)
    (pss_cons (ps_asg (pe_op op_add (pe_ix ix_list (pv 0) pe_int (fun _ _ => rfl)) pe_int) (pg_sub (pv 0) pe_int set_list))
    (pss_cons (ps_asg (pe_op op_mod (pe_callTy call_int1 (by rfl) T.int (by decide +kernel) (pa_cons (pe_op op_add (pe_op op_add (pe_op op_mul (pe_ix ix_list (pv 0) pe_int (fun _ _ => rfl)) (pe_op op_add pe_int (pe_op op_mul pe_int (pe_ix ix_list (pv 0) pe_int (fun _ _ => rfl))))) pe_int) (pe_ix ix_list (pv 0) pe_int (fun _ _ => rfl))) pa_nil)) pe_int) (pg_sub (pv 0) pe_int set_list))
    (pss_one (ps_ret (pe_op op_mod (pe_callTy call_int1 (by rfl) T.int (by decide +kernel) (pa_cons (pe_op op_fdiv (pe_ix ix_list (pv 0) pe_int (fun _ _ => rfl)) pe_int) pa_nil)) (pv 1)))))))
-- level 1
theorem sc_law_one_of : FnScope N_law_one_of ["_law_jug_here", "_law_some"] (defScope s_law_one_of) := ⟨rfl, rfl, rfl, by decide +kernel, rfl, by decide +kernel, by decide +kernel⟩
theorem der_law_one_of {P : Program} {w : World} {K : PySem.W.Frag} {mg : Str → Option Value} {base : Heap} {cS cP f : Addr} {cd : Value} {A : Around} {outer : List Env} {s : Shared} {H : Hp} {E : XK} {sp_law_take : Sp} (T : Txt K mg cS cP) (c_law_take : Cal P w K mg base 1 "_law_take" ["_law_jug_here", "_law_many"] sp_law_take)
    (hr : Room 1 (A.deeper (envOfC "_law_one_of" (defScope s_law_one_of) s.heap.objs.size f cd))) :
    PSs (cxOf CX0 P w K mg base N_law_one_of "_law_one_of" (defScope s_law_one_of) f cd A outer s H E).nox (defBody s_law_one_of) (t_law_one_of K cS cP sp_law_take) := by
  have nd : N_law_one_of.Nodup := by decide +kernel
  exact (pss_one (ps_ret (pe_ix ix_list (pv 1) (pe_cal c_law_take (hr.mono (by decide)) (by rfl) (pa_cons (pv 0) (pa_cons (pe_callB call_len_seq (by rfl) T.len (by decide +kernel) (pa_cons (pv 1) pa_nil)) pa_nil))) (fun _ _ => rfl))))
-- level 2
theorem sc_law_letters : FnScope N_law_letters ["_law_jug_here", "_law_many"] (defScope s_law_letters) := ⟨rfl, rfl, rfl, by decide +kernel, rfl, by decide +kernel, by decide +kernel⟩
theorem der_law_letters {P : Program} {w : World} {K : PySem.W.Frag} {mg : Str → Option Value} {base : Heap} {cS cP f : Addr} {cd : Value} {A : Around} {outer : List Env} {s : Shared} {H : Hp} {E : XK} {sp_law_one_of sp_law_take : Sp} (T : Txt K mg cS cP) (c_law_one_of : Cal P w K mg base 2 "_law_one_of" ["_law_jug_here", "_law_some"] sp_law_one_of) (c_law_take : Cal P w K mg base 1 "_law_take" ["_law_jug_here", "_law_many"] sp_law_take)
    (hr : Room 2 (A.deeper (envOfC "_law_letters" (defScope s_law_letters) s.heap.objs.size f cd))) :
    PSs (cxOf CX0 P w K mg base N_law_letters "_law_letters" (defScope s_law_letters) f cd A outer s H E).nox (defBody s_law_letters) (t_law_letters K cS cP sp_law_one_of sp_law_take) := by
  have nd : N_law_letters.Nodup := by decide +kernel
  exact (pss_cons (ps_set (i := 2) nd rfl (Or.inr rfl) (pe_lst pa_nil))
    (pss_cons (ps_for PassesOwn.never rfl (pi_range1 (by rfl) T.range (pa_cons (pv 1) pa_nil)) (pg_name (i := 3) nd rfl (Or.inl rfl))
    (pss_cons (ps_setLc (own := [("_law_letter", 6)]) (g := (gName 6)) (tt := (tTest (tOp (rIn K true) (tVar 6) (tVar 2)))) (te := (tVar 6)) (i := 4) rfl nd rfl rfl (sw_true rfl rfl rfl (by decide +kernel)) (pi_str pe_str) (blkOk_by (own := [("_law_letter", 6)]) (N := N_law_letters) (sc := defScope s_law_letters) (by decide +kernel)) (fun _ _ _ _ _ => (pg_name (i := 6) nd rfl (Or.inl rfl))) (fun _ _ _ _ _ => (pts_one (pt_cmpR op_notIn_seq (pv 6) (pv 2) (by rfl)))) (fun _ _ _ _ _ => (pv 6)))
    (pss_cons (ps_setLc (own := [("_law_letter", 6)]) (g := (gName 6)) (tt := (tTest (tOp (rIn K true) (tVar 6) (tVar 2)))) (te := (tVar 6)) (i := 5) rfl nd rfl rfl (sw_true rfl rfl rfl (by decide +kernel)) (pi_str pe_str) (blkOk_by (own := [("_law_letter", 6)]) (N := N_law_letters) (sc := defScope s_law_letters) (by decide +kernel)) (fun _ _ _ _ _ => (pg_name (i := 6) nd rfl (Or.inl rfl))) (fun _ _ _ _ _ => (pts_one (pt_cmpR op_notIn_seq (pv 6) (pv 2) (by rfl)))) (fun _ _ _ _ _ => (pv 6)))
    (pss_one (ps_expr (pe_bm PySem.F.plainAttrs_list PySem.F.slot_list_append PySem.F.type_list_append mt_append (pv 2) (pa_cons (pe_cal c_law_one_of (hr.mono (by decide)) (by rfl) (pa_cons (pv 0) (pa_cons (pe_ifExp (pt_cmpR op_eq (pe_cal c_law_take (hr.mono (by decide)) (by rfl) (pa_cons (pv 0) (pa_cons pe_int pa_nil))) pe_int (nomark _)) (pv 4) (pv 5)) pa_nil))) pa_nil)))))))
    (pss_one (ps_ret (pe_callB cr_sortedS (by rfl) T.sorted (by decide +kernel) (pa_cons (pv 2) pa_nil))))))
-- level 3
theorem sc_law_drawn_cells : FnScope N_law_drawn_cells ["_law_jug_here", "_law_most"] (defScope s_law_drawn_cells) := ⟨rfl, rfl, rfl, by decide +kernel, rfl, by decide +kernel, by decide +kernel⟩
theorem der_law_drawn_cells {P : Program} {w : World} {K : PySem.W.Frag} {mg : Str → Option Value} {base : Heap} {cS cP f : Addr} {cd : Value} {A : Around} {outer : List Env} {s : Shared} {H : Hp} {E : XK} {sp_law_take sp_law_one_of : Sp} (T : Txt K mg cS cP) (c_law_take : Cal P w K mg base 1 "_law_take" ["_law_jug_here", "_law_many"] sp_law_take) (c_law_one_of : Cal P w K mg base 2 "_law_one_of" ["_law_jug_here", "_law_some"] sp_law_one_of)
    (hr : Room 2 (A.deeper (envOfC "_law_drawn_cells" (defScope s_law_drawn_cells) s.heap.objs.size f cd))) :
    PSs (cxOf CX0 P w K mg base N_law_drawn_cells "_law_drawn_cells" (defScope s_law_drawn_cells) f cd A outer s H E).nox (defBody s_law_drawn_cells) (t_law_drawn_cells K cS cP sp_law_take sp_law_one_of) := by
  have nd : N_law_drawn_cells.Nodup := by decide +kernel
  exact (pss_cons (ps_par3 (i := 2) (j := 3) (l := 4) rfl nd rfl rfl rfl (by decide) (by decide) (by decide) rfl rfl rfl (pa_cons (pe_cal c_law_take (hr.mono (by decide)) (by rfl) (pa_cons (pv 0) (pa_cons (pe_op op_add (pv 1) pe_int) pa_nil))) (pa_cons (pe_cal c_law_one_of (hr.mono (by decide)) (by rfl) (pa_cons (pv 0) (pa_cons (pe_lst (pa_cons pe_int (pa_cons pe_int (pa_cons pe_int (pa_cons pe_int (pa_cons pe_int pa_nil)))))) pa_nil))) (pa_cons (pe_lst pa_nil) pa_nil))) (by rfl))
    (pss_cons (ps_for PassesOwn.never rfl (pi_range1 (by rfl) T.range (pa_cons (pv 2) pa_nil)) (pg_name (i := 5) nd rfl (Or.inl rfl))
    (pss_cons (ps_set (i := 3) nd rfl (Or.inl rfl) (pe_op op_add (pe_op op_add (pv 3) pe_int) (pe_callTy call_int1 (by rfl) T.int (by decide +kernel) (pa_cons (pe_cmpR op_eq (pe_cal c_law_take (hr.mono (by decide)) (by rfl) (pa_cons (pv 0) (pa_cons pe_int pa_nil))) pe_int (nomark _)) pa_nil))))
    (pss_one (ps_expr (pe_bm PySem.F.plainAttrs_list PySem.F.slot_list_append PySem.F.type_list_append mt_append (pv 4) (pa_cons (pv 3) pa_nil))))))
    (pss_cons (ps_par (i := 6) (j := 7) rfl nd rfl rfl (by decide) rfl rfl (pa_cons (pe_op op_cat (pe_op op_cat (pe_lst (pa_cons pe_int pa_nil)) (pv 4)) (pe_lst (pa_cons (pe_op op_add (pv 3) pe_int) (pa_cons (pe_op op_add (pv 3) pe_int) pa_nil)))) (pa_cons (pe_lst pa_nil) pa_nil)) (by rfl))
    (pss_cons (ps_for PassesOwn.never rfl (pi_enum (by rfl) T.enumerate (pa_cons (pv 4) pa_nil)) (pg_tup rfl (pgs_cons (pg_name (i := 8) nd rfl (Or.inl rfl)) (pgs_cons (pg_name (i := 9) nd rfl (Or.inl rfl)) pgs_nil)))
    (pss_cons (ps_set (i := 10) nd rfl (Or.inl rfl) (pe_ix ix_list (pv 6) (pe_op op_add (pv 8) pe_int) (fun _ _ => rfl)))
    (pss_cons (ps_if (pt_cmpR op_gt (pe_cal c_law_take (hr.mono (by decide)) (by rfl) (pa_cons (pv 0) (pa_cons pe_int pa_nil))) pe_int (nomark _)) (pss_one (ps_set (i := 10) nd rfl (Or.inl rfl) (pe_cal c_law_one_of (hr.mono (by decide)) (by rfl) (pa_cons (pv 0) (pa_cons (pv 6) pa_nil))))) pss_nil)
    (pss_one (ps_expr (pe_bm PySem.F.plainAttrs_list PySem.F.slot_list_append PySem.F.type_list_append mt_append (pv 7) (pa_cons (pe_tup (pa_cons (pv 9) (pa_cons (pv 10) pa_nil))) pa_nil)))))))
    (pss_one (ps_ret (pe_tup (pa_cons (pv 7) (pa_cons (pv 6) pa_nil)))))))))
-- level 3
theorem sc_law_drawn_store : FnScope N_law_drawn_store ["_law_jug_here", "_law_letters_here", "_law_most"] (defScope s_law_drawn_store) := ⟨rfl, rfl, rfl, by decide +kernel, rfl, by decide +kernel, by decide +kernel⟩
theorem der_law_drawn_store {P : Program} {w : World} {K : PySem.W.Frag} {mg : Str → Option Value} {base : Heap} {cS cP f : Addr} {cd : Value} {A : Around} {outer : List Env} {s : Shared} {H : Hp} {E : XK} {sp_law_drawn_cells sp_law_one_of : Sp} (T : Txt K mg cS cP) (c_law_drawn_cells : Cal P w K mg base 3 "_law_drawn_cells" ["_law_jug_here", "_law_most"] sp_law_drawn_cells) (c_law_one_of : Cal P w K mg base 2 "_law_one_of" ["_law_jug_here", "_law_some"] sp_law_one_of)
    (hr : Room 3 (A.deeper (envOfC "_law_drawn_store" (defScope s_law_drawn_store) s.heap.objs.size f cd))) :
    PSs (cxOf CX0 P w K mg base N_law_drawn_store "_law_drawn_store" (defScope s_law_drawn_store) f cd A outer s H E).nox (defBody s_law_drawn_store) (t_law_drawn_store K cS cP sp_law_drawn_cells sp_law_one_of) := by
  have nd : N_law_drawn_store.Nodup := by decide +kernel
  exact (pss_cons (ps_asg (pe_cal c_law_drawn_cells (hr.mono (by decide)) (by rfl) (pa_cons (pv 0) (pa_cons (pv 2) pa_nil))) (pg_tup rfl (pgs_cons (pg_name (i := 3) nd rfl (Or.inl rfl)) (pgs_cons (pg_name (i := 4) nd rfl (Or.inr rfl)) pgs_nil))))
    (pss_one (ps_ret (pe_tup (pa_cons (pe_callTy call_tupF (by rfl) T.tuple (by decide +kernel) (pa_cons (pe_lc (own := [("_law_letter", 5)]) (g := (gName 5)) (tt := tYes) (te := (tTup (tCons (tVar 5) (tCons (tCl sp_law_one_of (tCons (tVar 0) (tCons (tVar 4) tNil))) tNil)))) rfl nd (pi_list (pv 1)) (blkOk_by (own := [("_law_letter", 5)]) (N := N_law_drawn_store) (sc := defScope s_law_drawn_store) (by decide +kernel)) (fun _ _ _ _ _ => (pg_name (i := 5) nd rfl (Or.inl rfl))) (fun _ _ _ _ _ => pts_nil) (fun _ _ _ _ _ => (pe_tup (pa_cons (pv 5) (pa_cons (pe_cal c_law_one_of (hr.mono (by decide)) (by rfl) (pa_cons (pv 0) (pa_cons (pv 4) pa_nil))) pa_nil))))) pa_nil)) (pa_cons (pe_callTy call_tupF (by rfl) T.tuple (by decide +kernel) (pa_cons (pv 3) pa_nil)) pa_nil))))))
-- level 4
theorem sc_law_arrows : FnScope N_law_arrows ["_law_cells"] (defScope s_law_arrows) := ⟨rfl, rfl, rfl, by decide +kernel, rfl, by decide +kernel, by decide +kernel⟩
theorem der_law_arrows {P : Program} {w : World} {K : PySem.W.Frag} {mg : Str → Option Value} {base : Heap} {cS cP f : Addr} {cd : Value} {A : Around} {outer : List Env} {s : Shared} {H : Hp} {E : XK} (T : Txt K mg cS cP)
    (hr : Room 0 (A.deeper (envOfC "_law_arrows" (defScope s_law_arrows) s.heap.objs.size f cd))) :
    PSs (cxOf CX0 P w K mg base N_law_arrows "_law_arrows" (defScope s_law_arrows) f cd A outer s H E).nox (defBody s_law_arrows) (t_law_arrows K cS cP ) := by
  have nd : N_law_arrows.Nodup := by decide +kernel
  exact (pss_cons (ps_set (i := 1) nd rfl (Or.inl rfl) pe_dnewK)
    (pss_cons (ps_for PassesOwn.never rfl (pi_tup (pv 0)) (pg_tup rfl (pgs_cons (pg_name (i := 2) nd rfl (Or.inl rfl)) (pgs_cons (pg_name (i := 3) nd rfl (Or.inl rfl)) pgs_nil)))
    (pss_one (ps_dput (hu_of hr) (pv 1) (pv 2) (pv 3) rfl)))
    (pss_one (ps_ret (pv 1)))))
-- level 1
theorem sc_law_gone_along : FnScope N_law_gone_along ["_law_arrows_here", "_law_place"] (defScope s_law_gone_along) := ⟨rfl, rfl, rfl, by decide +kernel, rfl, by decide +kernel, by decide +kernel⟩
theorem der_law_gone_along {P : Program} {w : World} {K : PySem.W.Frag} {mg : Str → Option Value} {base : Heap} {cS cP f : Addr} {cd : Value} {A : Around} {outer : List Env} {s : Shared} {H : Hp} {E : XK} (T : Txt K mg cS cP)
    (hr : Room 0 (A.deeper (envOfC "_law_gone_along" (defScope s_law_gone_along) s.heap.objs.size f cd))) :
    PSs (cxOf CX0 P w K mg base N_law_gone_along "_law_gone_along" (defScope s_law_gone_along) f cd A outer s H E).nox (defBody s_law_gone_along) (t_law_gone_along K cS cP ) := by
  have nd : N_law_gone_along.Nodup := by decide +kernel
  exact (pss_cons (ps_par (i := 2) (j := 3) rfl nd rfl rfl (by decide) rfl rfl (pa_cons (pe_lst pa_nil) (pa_cons (pv 1) pa_nil)) (by rfl))
    (pss_cons (ps_for PassesOwn.never rfl (pi_range1 (by rfl) T.range (pa_cons (pe_op op_add (pe_callB call_lenD (by rfl) T.len (by decide +kernel) (pa_cons (pv 0) pa_nil)) pe_int) pa_nil)) (pg_name (i := 4) nd rfl (Or.inl rfl))
    (pss_cons (ps_if (PW.pt (pw_or (pt_cmp (pc_dnotin (hu_of hr) (pv 3) (pv 0))) (pw_or1 (pt_cmpR op_in_seq (pv 3) (pv 2) (by rfl))))) (pss_one ps_break) pss_nil)
    (pss_cons (ps_expr (pe_bm PySem.F.plainAttrs_list PySem.F.slot_list_append PySem.F.type_list_append mt_append (pv 2) (pa_cons (pv 3) pa_nil)))
    (pss_one (ps_set (i := 3) nd rfl (Or.inl rfl) (pe_dget (hu_of hr) (pv 0) (pv 3) (fun _ _ => rfl)))))))
    (pss_one (ps_ret (pe_tup (pa_cons (pv 2) (pa_cons (pv 3) pa_nil)))))))
-- level 1
theorem sc_law_knots : FnScope N_law_knots ["_law_names", "_law_arrows_here"] (defScope s_law_knots) := ⟨rfl, rfl, rfl, by decide +kernel, rfl, by decide +kernel, by decide +kernel⟩
theorem der_law_knots {P : Program} {w : World} {K : PySem.W.Frag} {mg : Str → Option Value} {base : Heap} {cS cP f : Addr} {cd : Value} {A : Around} {outer : List Env} {s : Shared} {H : Hp} {E : XK} {sp_law_gone_along : Sp} (T : Txt K mg cS cP) (c_law_gone_along : Cal P w K mg base 1 "_law_gone_along" ["_law_arrows_here", "_law_place"] sp_law_gone_along)
    (hr : Room 1 (A.deeper (envOfC "_law_knots" (defScope s_law_knots) s.heap.objs.size f cd))) :
    PSs (cxOf CX0 P w K mg base N_law_knots "_law_knots" (defScope s_law_knots) f cd A outer s H E).nox (defBody s_law_knots) (t_law_knots K cS cP sp_law_gone_along) := by
  have nd : N_law_knots.Nodup := by decide +kernel
  exact (pss_cons (ps_asg (pe_tup (pa_cons (pe_lst pa_nil) (pa_cons pe_dnewK (pa_cons (pe_lst pa_nil) pa_nil)))) (pg_tup rfl (pgs_cons (pg_name (i := 2) nd rfl (Or.inr rfl)) (pgs_cons (pg_name (i := 3) nd rfl (Or.inl rfl)) (pgs_cons (pg_name (i := 4) nd rfl (Or.inl rfl)) pgs_nil)))))
    (pss_cons (ps_for PassesOwn.never rfl (pi_tup (pv 0)) (pg_tup rfl (pgs_cons (pg_name (i := 5) nd rfl (Or.inl rfl)) (pgs_cons (pg_name (i := 6) nd rfl (Or.inl rfl)) pgs_nil)))
    (pss_one (ps_set (i := 2) nd rfl (Or.inr rfl) (pe_op op_cat (pv 2) (pe_lc (own := [("_law_cell", 7)]) (g := (gName 7)) (tt := (tTest (tOp (rIn K true) (tVar 7) (tVar 2)))) (te := (tVar 7)) rfl nd (pi_list (pe_ix ix_tup (pe_cal c_law_gone_along (hr.mono (by decide)) (by rfl) (pa_cons (pv 1) (pa_cons (pv 6) pa_nil))) pe_int (fun _ _ => rfl))) (blkOk_by (own := [("_law_cell", 7)]) (N := N_law_knots) (sc := defScope s_law_knots) (by decide +kernel)) (fun _ _ _ _ _ => (pg_name (i := 7) nd rfl (Or.inl rfl))) (fun _ _ _ _ _ => (pts_one (pt_cmpR op_notIn_seq (pv 7) (pv 2) (by rfl)))) (fun _ _ _ _ _ => (pv 7)))))))
    (pss_cons (ps_for PassesOwn.never rfl (pi_list (pv 2)) (pg_name (i := 7) nd rfl (Or.inl rfl))
    (pss_one (ps_dput (hu_of hr) (pv 3) (pe_dget (hu_of hr) (pv 1) (pv 7) (fun _ _ => rfl)) (pe_op op_add (pe_dget2 (hu_of hr) (pv 3) (pe_dget (hu_of hr) (pv 1) (pv 7) (fun _ _ => rfl)) pe_int ⟨rfl, rfl, rfl, rfl⟩) pe_int) rfl)))
    (pss_cons (ps_setLc (own := [("_law_letter", 5), ("_law_place", 6)]) (g := (gTup K 2 (gCons (gName 5) (gCons (gName 6) gNil)))) (tt := tYes) (te := (tVar 6)) (i := 8) rfl nd rfl rfl (sw_true rfl rfl rfl (by decide +kernel)) (pi_tup (pv 0)) (blkOk_by (own := [("_law_letter", 5), ("_law_place", 6)]) (N := N_law_knots) (sc := defScope s_law_knots) (by decide +kernel)) (fun _ _ _ _ _ => (pg_tup rfl (pgs_cons (pg_name (i := 5) nd rfl (Or.inl rfl)) (pgs_cons (pg_name (i := 6) nd rfl (Or.inl rfl)) pgs_nil)))) (fun _ _ _ _ _ => pts_nil) (fun _ _ _ _ _ => (pv 6)))
    (pss_cons (ps_for PassesOwn.never rfl (pi_tup (pv 0)) (pg_tup rfl (pgs_cons (pg_name (i := 5) nd rfl (Or.inl rfl)) (pgs_cons (pg_name (i := 6) nd rfl (Or.inl rfl)) pgs_nil)))
    (pss_cons (ps_asg (pe_cal c_law_gone_along (hr.mono (by decide)) (by rfl) (pa_cons (pv 1) (pa_cons (pv 6) pa_nil))) (pg_tup rfl (pgs_cons (pg_name (i := 9) nd rfl (Or.inl rfl)) (pgs_cons (pg_name (i := 10) nd rfl (Or.inl rfl)) pgs_nil))))
    (pss_one (ps_for PassesOwn.never rfl (pi_list (pe_op op_cat (pv 9) (pe_lst (pa_cons (pv 10) pa_nil)))) (pg_name (i := 11) nd rfl (Or.inl rfl))
    (pss_one (ps_if (PW.pt (pw_and (pt_cmpR op_notIn_seq (pv 11) (pv 4) (by rfl)) (pw_and1 (PW.pt (pw_or (pt_cmp (pc_dnotin (hu_of hr) (pv 11) (pv 1))) (pw_or (pt_cmpR op_in_seq (pv 11) (pv 8) (by rfl)) (pw_or1 (pt_cmpR op_gt (pe_dget2 (hu_of hr) (pv 3) (pv 11) pe_int ⟨rfl, rfl, rfl, rfl⟩) pe_int (nomark _))))))))) (pss_one (ps_expr (pe_bm PySem.F.plainAttrs_list PySem.F.slot_list_append PySem.F.type_list_append mt_append (pv 4) (pa_cons (pv 11) pa_nil)))) pss_nil))))))
    (pss_one (ps_ret (pe_tup (pa_cons (pv 4) (pa_cons (pv 2) pa_nil))))))))))
-- level 2
theorem sc_law_plan : FnScope N_law_plan ["_law_names", "_law_cells"] (defScope s_law_plan) := ⟨rfl, rfl, rfl, by decide +kernel, rfl, by decide +kernel, by decide +kernel⟩
theorem der_law_plan {P : Program} {w : World} {K : PySem.W.Frag} {mg : Str → Option Value} {base : Heap} {cS cP f : Addr} {cd : Value} {A : Around} {outer : List Env} {s : Shared} {H : Hp} {E : XK} {sp_law_arrows sp_law_knots : Sp} (T : Txt K mg cS cP) (c_law_arrows : Cal P w K mg base 1 "_law_arrows" ["_law_cells"] sp_law_arrows) (c_law_knots : Cal P w K mg base 2 "_law_knots" ["_law_names", "_law_arrows_here"] sp_law_knots)
    (hr : Room 2 (A.deeper (envOfC "_law_plan" (defScope s_law_plan) s.heap.objs.size f cd))) :
    PSs (cxOf CX0 P w K mg base N_law_plan "_law_plan" (defScope s_law_plan) f cd A outer s H E).nox (defBody s_law_plan) (t_law_plan K cS cP sp_law_arrows sp_law_knots) := by
  have nd : N_law_plan.Nodup := by decide +kernel
  exact (pss_cons (ps_set (i := 2) nd rfl (Or.inl rfl) (pe_cal c_law_arrows (hr.mono (by decide)) (by rfl) (pa_cons (pv 1) pa_nil)))
    (pss_cons (ps_asg (pe_cal c_law_knots (hr.mono (by decide)) (by rfl) (pa_cons (pv 0) (pa_cons (pv 2) pa_nil))) (pg_tup rfl (pgs_cons (pg_name (i := 3) nd rfl (Or.inl rfl)) (pgs_cons (pg_name (i := 4) nd rfl (Or.inl rfl)) pgs_nil))))
    (pss_cons (ps_par (i := 5) (j := 6) rfl nd rfl rfl (by decide) rfl rfl (pa_cons (pe_lst pa_nil) (pa_cons (pe_lst pa_nil) pa_nil)) (by rfl))
    (pss_cons (ps_for PassesOwn.never rfl (pi_list (pv 3)) (pg_name (i := 7) nd rfl (Or.inr rfl))
    (pss_cons (ps_set (i := 8) nd rfl (Or.inl rfl) (pe_join pe_str (pe_lc (own := [("_law_letter", 12), ("_law_place", 13)]) (g := (gTup K 2 (gCons (gName 12) (gCons (gName 13) gNil)))) (tt := (tTest (tOp rEq (tVar 13) (tVar 7)))) (te := (tVar 12)) rfl nd (pi_tup (pv 0)) (blkOk_by (own := [("_law_letter", 12), ("_law_place", 13)]) (N := N_law_plan) (sc := defScope s_law_plan) (by decide +kernel)) (fun _ _ _ _ _ => (pg_tup rfl (pgs_cons (pg_name (i := 12) nd rfl (Or.inl rfl)) (pgs_cons (pg_name (i := 13) nd rfl (Or.inl rfl)) pgs_nil)))) (fun _ _ _ _ _ => (pts_one (pt_cmpR op_eq (pv 13) (pv 7) (nomark _)))) (fun _ _ _ _ _ => (pv 12)))))
    (pss_cons (ps_set (i := 8) nd rfl (Or.inl rfl) (pe_ifExp (pt_cmpR op_ne (pv 8) pe_str (nomark _)) (pv 8) pe_str))
    (pss_one (ps_if (pt_cmp (pc_dnotin (hu_of hr) (pv 7) (pv 2))) (pss_one (ps_expr (pe_bm PySem.F.plainAttrs_list PySem.F.slot_list_append PySem.F.type_list_append mt_append (pv 5) (pa_cons (pe_op op_add_str (pv 8) (pe_ifExp (pt_cmpR op_eq (pv 7) pe_int (nomark _)) pe_str pe_str)) pa_nil)))) (pss_cons (ps_par (i := 9) (j := 10) rfl nd rfl rfl (by decide) rfl rfl (pa_cons (pe_lst (pa_cons (pv 7) pa_nil)) (pa_cons (pe_dget (hu_of hr) (pv 2) (pv 7) (fun _ _ => rfl)) pa_nil)) (by rfl))
    (pss_cons (ps_for PassesOwn.never rfl (pi_range1 (by rfl) T.range (pa_cons (pe_callB call_lenD (by rfl) T.len (by decide +kernel) (pa_cons (pv 2) pa_nil)) pa_nil)) (pg_name (i := 11) nd rfl (Or.inl rfl))
    (pss_cons (ps_if (pt_cmpR op_in_seq (pv 10) (pv 3) (by rfl)) (pss_one ps_break) pss_nil)
    (pss_cons (ps_expr (pe_bm PySem.F.plainAttrs_list PySem.F.slot_list_append PySem.F.type_list_append mt_append (pv 9) (pa_cons (pv 10) pa_nil)))
    (pss_one (ps_set (i := 10) nd rfl (Or.inl rfl) (pe_dget (hu_of hr) (pv 2) (pv 10) (fun _ _ => rfl)))))))
    (pss_cons (ps_expr (pe_bm PySem.F.plainAttrs_list PySem.F.slot_list_append PySem.F.type_list_append mt_append (pv 5) (pa_cons (pe_op op_add_str (pe_op op_add_str (pv 8) pe_str) (pe_callTy call_str_int (by rfl) T.str (by decide +kernel) (pa_cons (pe_bm PySem.F.plainAttrs_list PySem.F.slot_list_index PySem.F.type_list_index mt_index (pv 3) (pa_cons (pv 10) pa_nil)) pa_nil))) pa_nil)))
    (pss_one (ps_expr (pe_bm PySem.F.plainAttrs_list PySem.F.slot_list_append PySem.F.type_list_append mt_append (pv 6) (pa_cons (pv 9) pa_nil))))))))))))
    (pss_one (ps_ret (pe_tup (pa_cons (pv 5) (pa_cons (pe_lc (own := [("_law_line", 9)]) (g := (gName 9)) (tt := tYes) (te := (tCB (rLenQ K) (tCons (tVar 9) tNil))) rfl nd (pi_list (pv 6)) (blkOk_by (own := [("_law_line", 9)]) (N := N_law_plan) (sc := defScope s_law_plan) (by decide +kernel)) (fun _ _ _ _ _ => (pg_name (i := 9) nd rfl (Or.inl rfl))) (fun _ _ _ _ _ => pts_nil) (fun _ _ _ _ _ => (pe_callB call_len_seq (by rfl) T.len (by decide +kernel) (pa_cons (pv 9) pa_nil)))) (pa_cons (pe_op op_sub (pe_callB call_lenD (by rfl) T.len (by decide +kernel) (pa_cons (pv 2) pa_nil)) (pe_callB call_len_seq (by rfl) T.len (by decide +kernel) (pa_cons (pv 4) pa_nil))) (pa_cons (pv 6) (pa_cons (pv 3) pa_nil))))))))))))
-- level 3
theorem sc_law_plan_text : FnScope N_law_plan_text ["_law_words", "_law_lengths", "_law_lost"] (defScope s_law_plan_text) := ⟨rfl, rfl, rfl, by decide +kernel, rfl, by decide +kernel, by decide +kernel⟩
theorem der_law_plan_text {P : Program} {w : World} {K : PySem.W.Frag} {mg : Str → Option Value} {base : Heap} {cS cP f : Addr} {cd : Value} {A : Around} {outer : List Env} {s : Shared} {H : Hp} {E : XK} (T : Txt K mg cS cP)
    (hr : Room 0 (A.deeper (envOfC "_law_plan_text" (defScope s_law_plan_text) s.heap.objs.size f cd))) :
    PSs (cxOf CX0 P w K mg base N_law_plan_text "_law_plan_text" (defScope s_law_plan_text) f cd A outer s H E).nox (defBody s_law_plan_text) (t_law_plan_text K cS cP ) := by
  have nd : N_law_plan_text.Nodup := by decide +kernel
  exact (pss_cons (ps_set (i := 3) nd rfl (Or.inl rfl) (pe_ifExp (pt_cmpR op_gt (pe_callB call_len_seq (by rfl) T.len (by decide +kernel) (pa_cons (pv 1) pa_nil)) pe_int (nomark _)) (pe_join pe_str (pe_lc (own := [("_law_each", 4)]) (g := (gName 4)) (tt := tYes) (te := (tCB rStrI (tCons (tVar 4) tNil))) rfl nd (pi_list (pv 1)) (blkOk_by (own := [("_law_each", 4)]) (N := N_law_plan_text) (sc := defScope s_law_plan_text) (by decide +kernel)) (fun _ _ _ _ _ => (pg_name (i := 4) nd rfl (Or.inl rfl))) (fun _ _ _ _ _ => pts_nil) (fun _ _ _ _ _ => (pe_callTy call_str_int (by rfl) T.str (by decide +kernel) (pa_cons (pv 4) pa_nil))))) pe_str))
    (pss_one (ps_ret (pe_op op_add_str (pe_op op_add_str (pe_op op_add_str (pe_op op_add_str (pe_join pe_str (pv 0)) pe_str) (pv 3)) pe_str) (pe_callTy call_str_int (by rfl) T.str (by decide +kernel) (pa_cons (pv 2) pa_nil))))))
-- level 1
theorem sc_law_word : FnScope N_law_word ["_law_word_here"] (defScope s_law_word) := ⟨rfl, rfl, rfl, by decide +kernel, rfl, by decide +kernel, by decide +kernel⟩
theorem der_law_word {P : Program} {w : World} {K : PySem.W.Frag} {mg : Str → Option Value} {base : Heap} {cS cP f : Addr} {cd : Value} {A : Around} {outer : List Env} {s : Shared} {H : Hp} {E : XK} (T : Txt K mg cS cP)
    (hr : Room 0 (A.deeper (envOfC "_law_word" (defScope s_law_word) s.heap.objs.size f cd))) :
    PSsT (cxOf CX0 P w K mg base N_law_word "_law_word" (defScope s_law_word) f cd A outer s H E) (defBody s_law_word) (t_law_word K cS cP ) := by
  have nd : N_law_word.Nodup := by decide +kernel
  exact (psst_cons (CwR.pst_if (PW.pt (pw_and (pt_cmpR op_ne (pe_ix ix_str (pv 0) (pe_un un_neg pe_int) (fun _ _ => rfl)) pe_str (nomark _)) (pw_and1 (pt_cmpR op_ne (pe_ix ix_str (pv 0) (pe_un un_neg pe_int) (fun _ _ => rfl)) pe_str (nomark _))))) (psst_cons (PST.of (ps_set (i := 1) nd rfl (Or.inl rfl) (pe_split (pv 0) pe_str)))
    (CwR.psst_one (CwR.pst_ret (pet_tup (pat_cons (CwR.pet_replC (pe_ix ix_list (pv 1) pe_int (fun _ _ => rfl))) (pat_cons (CwR.PET.of pe_str) (pat_cons (CwR.PET.of (pe_callTy call_int_str (by rfl) T.int (by decide +kernel) (pa_cons (pe_ix ix_list (pv 1) pe_int (fun _ _ => rfl)) pa_nil))) pat_nil))))))) CwR.psst_nil)
    (CwR.psst_one (CwR.pst_ret (pet_tup (pat_cons (CwR.pet_replC (pe_slice sl_str (pv 0) po_none (po_some (pe_un un_neg pe_int)))) (pat_cons (CwR.PET.of (pe_ix ix_str (pv 0) (pe_un un_neg pe_int) (fun _ _ => rfl))) (pat_cons (CwR.PET.of pe_non) pat_nil)))))))
-- level 1
theorem sc_law_canon : FnScope N_law_canon ["_law_words", "_law_lengths", "_law_lost"] (defScope s_law_canon) := ⟨rfl, rfl, rfl, by decide +kernel, rfl, by decide +kernel, by decide +kernel⟩
theorem der_law_canon {P : Program} {w : World} {K : PySem.W.Frag} {mg : Str → Option Value} {base : Heap} {cS cP f : Addr} {cd : Value} {A : Around} {outer : List Env} {s : Shared} {H : Hp} {E : XK} {sp_law_word : Sp} (T : Txt K mg cS cP) (c_law_word : Cal P w K mg base 1 "_law_word" ["_law_word_here"] sp_law_word)
    (hr : Room 1 (A.deeper (envOfC "_law_canon" (defScope s_law_canon) s.heap.objs.size f cd))) :
    PSs (cxOf CX0 P w K mg base N_law_canon "_law_canon" (defScope s_law_canon) f cd A outer s H E).nox (defBody s_law_canon) (t_law_canon K cS cP sp_law_word) := by
  have nd : N_law_canon.Nodup := by decide +kernel
  exact (pss_cons (ps_asg (pe_tup (pa_cons (pe_lc (own := [("_law_word_here", 16)]) (g := (gName 16)) (tt := tYes) (te := (tCl sp_law_word (tCons (tVar 16) tNil))) rfl nd (pi_list (pv 0)) (blkOk_by (own := [("_law_word_here", 16)]) (N := N_law_canon) (sc := defScope s_law_canon) (by decide +kernel)) (fun _ _ _ _ _ => (pg_name (i := 16) nd rfl (Or.inl rfl))) (fun _ _ _ _ _ => pts_nil) (fun _ _ _ _ _ => (pe_cal c_law_word (hr.mono (by decide)) (by rfl) (pa_cons (pv 16) pa_nil)))) (pa_cons (pe_lst pa_nil) (pa_cons pe_int (pa_cons pe_int pa_nil))))) (pg_tup rfl (pgs_cons (pg_name (i := 3) nd rfl (Or.inl rfl)) (pgs_cons (pg_name (i := 4) nd rfl (Or.inr rfl)) (pgs_cons (pg_name (i := 5) nd rfl (Or.inl rfl)) (pgs_cons (pg_name (i := 6) nd rfl (Or.inl rfl)) pgs_nil))))))
    (pss_cons (ps_for PassesOwn.never rfl (pi_list (pv 3)) (pg_tup rfl (pgs_cons (pg_name (i := 7) nd rfl (Or.inl rfl)) (pgs_cons (pg_name (i := 8) nd rfl (Or.inl rfl)) (pgs_cons (pg_name (i := 9) nd rfl (Or.inl rfl)) pgs_nil))))
    (pss_cons (ps_expr (pe_bm PySem.F.plainAttrs_list PySem.F.slot_list_append PySem.F.type_list_append mt_append (pv 4) (pa_cons (pe_ifExp (pt_cmpR op_eq (pv 8) pe_str (nomark _)) (pv 5) pe_int) pa_nil)))
    (pss_one (ps_if (pt_cmpR op_eq (pv 8) pe_str (nomark _)) (pss_one (ps_par (i := 5) (j := 6) rfl nd rfl rfl (by decide) rfl rfl (pa_cons (pe_op op_add (pv 5) (pe_ix ix_list (pv 1) (pv 6) (fun _ _ => rfl))) (pa_cons (pe_op op_add (pv 6) pe_int) pa_nil)) (by rfl))) pss_nil))))
    (pss_cons (ps_asg (pe_tup (pa_cons (pv 5) (pa_cons (pe_op op_add (pv 5) (pv 2)) pa_nil))) (pg_tup rfl (pgs_cons (pg_name (i := 10) nd rfl (Or.inr rfl)) (pgs_cons (pg_name (i := 5) nd rfl (Or.inl rfl)) pgs_nil))))
    (pss_cons (ps_for PassesOwn.never rfl (pi_range1 (by rfl) T.range (pa_cons (pe_callB call_len_seq (by rfl) T.len (by decide +kernel) (pa_cons (pv 3) pa_nil)) pa_nil)) (pg_name (i := 11) nd rfl (Or.inr rfl))
    (pss_one (ps_if (pt_cmpR op_eq (pe_ix ix_tup (pe_ix ix_list (pv 3) (pv 11) (fun _ _ => rfl)) pe_int (fun _ _ => rfl)) pe_str (nomark _)) (pss_cons (ps_asg (pv 5) (pg_sub (pv 4) (pv 11) set_list))
    (pss_one (ps_set (i := 5) nd rfl (Or.inl rfl) (pe_op op_add (pv 5) pe_int)))) pss_nil)))
    (pss_cons (ps_par3 (i := 12) (j := 13) (l := 6) rfl nd rfl rfl rfl (by decide) (by decide) (by decide) rfl rfl rfl (pa_cons (pe_lst pa_nil) (pa_cons (pe_lst pa_nil) (pa_cons pe_int pa_nil))) (by rfl))
    (pss_cons (ps_for PassesOwn.never rfl (pi_enum (by rfl) T.enumerate (pa_cons (pv 3) pa_nil)) (pg_tup rfl (pgs_cons (pg_name (i := 11) nd rfl (Or.inr rfl)) (pgs_cons (pg_tup rfl (pgs_cons (pg_name (i := 7) nd rfl (Or.inl rfl)) (pgs_cons (pg_name (i := 8) nd rfl (Or.inl rfl)) (pgs_cons (pg_name (i := 9) nd rfl (Or.inl rfl)) pgs_nil)))) pgs_nil)))
    (pss_cons (ps_set (i := 12) nd rfl (Or.inl rfl) (pe_op op_cat (pv 12) (pe_lc (own := [("_law_letter", 17)]) (g := (gName 17)) (tt := tYes) (te := (tTup (tCons (tVar 17) (tCons (tOp (rIxL K) (tVar 4) (tVar 11)) tNil)))) rfl nd (pi_str (pv 7)) (blkOk_by (own := [("_law_letter", 17)]) (N := N_law_canon) (sc := defScope s_law_canon) (by decide +kernel)) (fun _ _ _ _ _ => (pg_name (i := 17) nd rfl (Or.inl rfl))) (fun _ _ _ _ _ => pts_nil) (fun _ _ _ _ _ => (pe_tup (pa_cons (pv 17) (pa_cons (pe_ix ix_list (pv 4) (pv 11) (fun _ _ => rfl)) pa_nil)))))))
    (pss_one (ps_if (pt_cmpR op_eq (pv 8) pe_str (nomark _)) (pss_cons (ps_for PassesOwn.never rfl (pi_range1 (by rfl) T.range (pa_cons (pe_ix ix_list (pv 1) (pv 6) (fun _ _ => rfl)) pa_nil)) (pg_name (i := 14) nd rfl (Or.inl rfl))
    (pss_cons (ps_set (i := 15) nd rfl (Or.inl rfl) (pe_op op_add (pe_ix ix_list (pv 4) (pv 11) (fun _ _ => rfl)) (pv 14)))
    (pss_one (ps_expr (pe_bm PySem.F.plainAttrs_list PySem.F.slot_list_append PySem.F.type_list_append mt_append (pv 13) (pa_cons (pe_tup (pa_cons (pv 15) (pa_cons (pe_ifExp (pt_cmpR op_lt (pe_op op_add (pv 14) pe_int) (pe_ix ix_list (pv 1) (pv 6) (fun _ _ => rfl)) (nomark _)) (pe_op op_add (pv 15) pe_int) (pe_ix ix_list (pv 4) (pv 9) (fun _ _ => rfl))) pa_nil))) pa_nil))))))
    (pss_one (ps_set (i := 6) nd rfl (Or.inl rfl) (pe_op op_add (pv 6) pe_int)))) pss_nil))))
    (pss_one (ps_ret (pe_tup (pa_cons (pe_callTy call_tupF (by rfl) T.tuple (by decide +kernel) (pa_cons (pe_callB (cr_sortedN hr) (by rfl) T.sorted (by decide +kernel) (pa_cons (pv 12) pa_nil)) pa_nil)) (pa_cons (pe_callTy call_tupF (by rfl) T.tuple (by decide +kernel) (pa_cons (pe_op op_cat (pe_callB (cr_sortedC hr) (by rfl) T.sorted (by decide +kernel) (pa_cons (pv 13) pa_nil)) (pe_lc (own := [("_law_step", 14)]) (g := (gName 14)) (tt := tYes) (te := (tTup (tCons (tOp rAddI (tVar 10) (tVar 14)) (tCons (tC (.int 0)) tNil)))) rfl nd (pi_range1 (by rfl) T.range (pa_cons (pv 2) pa_nil)) (blkOk_by (own := [("_law_step", 14)]) (N := N_law_canon) (sc := defScope s_law_canon) (by decide +kernel)) (fun _ _ _ _ _ => (pg_name (i := 14) nd rfl (Or.inl rfl))) (fun _ _ _ _ _ => pts_nil) (fun _ _ _ _ _ => (pe_tup (pa_cons (pe_op op_add (pv 10) (pv 14)) (pa_cons pe_int pa_nil)))))) pa_nil)) pa_nil)))))))))))
-- level 2
theorem sc_law_right : FnScope N_law_right ["_law_jug_here"] (defScope s_law_right) := ⟨rfl, rfl, rfl, by decide +kernel, rfl, by decide +kernel, by decide +kernel⟩
theorem der_law_right {P : Program} {w : World} {K : PySem.W.Frag} {mg : Str → Option Value} {base : Heap} {cS cP f : Addr} {cd : Value} {A : Around} {outer : List Env} {s : Shared} {H : Hp} {E : XK} {sp_law_letters sp_law_take sp_law_drawn_store sp_law_one_of sp_Store_init sp_law_plan sp_stretches_of sp_knots_of sp_plan_of sp_law_plan_text sp_Plan_text sp_Plan_size sp_law_canon sp_tidy sp_are_alike sp_Plan_eq : Sp} (T : Txt K mg cS cP) (c_law_letters : Cal P w K mg base 3 "_law_letters" ["_law_jug_here", "_law_many"] sp_law_letters) (c_law_take : Cal P w K mg base 1 "_law_take" ["_law_jug_here", "_law_many"] sp_law_take) (c_law_drawn_store : Cal P w K mg base 4 "_law_drawn_store" ["_law_jug_here", "_law_letters_here", "_law_most"] sp_law_drawn_store) (c_law_one_of : Cal P w K mg base 2 "_law_one_of" ["_law_jug_here", "_law_some"] sp_law_one_of) (c_Store_init : CalMk P w K mg base 5 cS ["self", "names", "cells"] sp_Store_init) (c_law_plan : Cal P w K mg base 3 "_law_plan" ["_law_names", "_law_cells"] sp_law_plan) (c_stretches_of : Cal P w K mg base 3 "stretches_of" ["store"] sp_stretches_of) (c_knots_of : Cal P w K mg base 3 "knots_of" ["store"] sp_knots_of) (c_plan_of : Cal P w K mg base 5 "plan_of" ["store"] sp_plan_of) (c_law_plan_text : Cal P w K mg base 1 "_law_plan_text" ["_law_words", "_law_lengths", "_law_lost"] sp_law_plan_text) (c_Plan_text : CalPr P w K mg base 1 cP "text" sp_Plan_text) (c_Plan_size : CalPr P w K mg base 1 cP "size" sp_Plan_size) (c_law_canon : Cal P w K mg base 2 "_law_canon" ["_law_words", "_law_lengths", "_law_lost"] sp_law_canon) (c_tidy : Cal P w K mg base 8 "tidy" ["store"] sp_tidy) (c_are_alike : Cal P w K mg base 6 "are_alike" ["store", "other"] sp_are_alike) (c_Plan_eq : CalEq P w K mg base 1 cP sp_Plan_eq) (ck_are_alike : CalK P w K mg base 6 "are_alike" ["store", "other"] sp_are_alike ["other", "store"] true) (ck_knots_of : CalK P w K mg base 3 "knots_of" ["store"] sp_knots_of ["store"] false) (ck_plan_of : CalK P w K mg base 5 "plan_of" ["store"] sp_plan_of ["store"] false) (ck_stretches_of : CalK P w K mg base 3 "stretches_of" ["store"] sp_stretches_of ["store"] false) (ck_tidy : CalK P w K mg base 8 "tidy" ["store"] sp_tidy ["store"] false) (hg : A.guards = some [])
    (hr : Room 8 (A.deeper (envOfC "_law_right" (defScope s_law_right) s.heap.objs.size f cd))) :
    PSs (cxOf CX0 P w K mg base N_law_right "_law_right" (defScope s_law_right) f cd A outer s H E).nox (defBody s_law_right) (t_law_right K cS cP sp_law_letters sp_law_take sp_law_drawn_store sp_law_one_of sp_Store_init sp_law_plan sp_stretches_of sp_knots_of sp_plan_of sp_law_plan_text sp_Plan_text sp_Plan_size sp_law_canon sp_tidy sp_are_alike sp_Plan_eq) := by
  have nd : N_law_right.Nodup := by decide +kernel
  exact (pss_cons (ps_set (i := 1) nd rfl (Or.inl rfl) (pe_cal c_law_letters (hr.mono (by decide)) (by rfl) (pa_cons (pv 0) (pa_cons (pe_op op_add pe_int (pe_cal c_law_take (hr.mono (by decide)) (by rfl) (pa_cons (pv 0) (pa_cons pe_int pa_nil)))) pa_nil))))
    (pss_cons (ps_asg (pe_cal c_law_drawn_store (hr.mono (by decide)) (by rfl) (pa_cons (pv 0) (pa_cons (pv 1) (pa_cons (pe_cal c_law_one_of (hr.mono (by decide)) (by rfl) (pa_cons (pv 0) (pa_cons (pe_lst (pa_cons pe_int (pa_cons pe_int (pa_cons pe_int pa_nil)))) pa_nil))) pa_nil)))) (pg_tup rfl (pgs_cons (pg_name (i := 2) nd rfl (Or.inl rfl)) (pgs_cons (pg_name (i := 3) nd rfl (Or.inl rfl)) pgs_nil))))
    (pss_cons (ps_set (i := 4) nd rfl (Or.inl rfl) (pe_mk c_Store_init (hr.mono (by decide)) rfl T.Store (pa_cons (pv 2) (pa_cons (pv 3) pa_nil))))
    (pss_cons (ps_asg (pe_cal c_law_plan (hr.mono (by decide)) (by rfl) (pa_cons (pv 2) (pa_cons (pv 3) pa_nil))) (pg_tup rfl (pgs_cons (pg_name (i := 5) nd rfl (Or.inl rfl)) (pgs_cons (pg_name (i := 6) nd rfl (Or.inl rfl)) (pgs_cons (pg_name (i := 7) nd rfl (Or.inl rfl)) (pgs_cons (pg_name (i := 8) nd rfl (Or.inl rfl)) (pgs_cons (pg_name (i := 9) nd rfl (Or.inl rfl)) pgs_nil)))))))
    (pss_cons (ps_if (pt_cmpR op_ne (pe_callB (call_reprD hg hr) (by rfl) T.repr (by decide +kernel) (pa_cons (pe_lst (pa_cons (pe_cal c_knots_of (hr.mono (by decide)) (by rfl) (pa_cons (pv 4) pa_nil)) (pa_cons (pe_cal c_stretches_of (hr.mono (by decide)) (by rfl) (pa_cons (pv 4) pa_nil)) pa_nil))) pa_nil)) (pe_callB (call_reprD hg hr) (by rfl) T.repr (by decide +kernel) (pa_cons (pe_lst (pa_cons (pe_callTy call_tupF (by rfl) T.tuple (by decide +kernel) (pa_cons (pv 9) pa_nil)) (pa_cons (pe_callTy call_tupF (by rfl) T.tuple (by decide +kernel) (pa_cons (pe_lc (own := [("_law_line", 20)]) (g := (gName 20)) (tt := tYes) (te := (tCB (rTupF K) (tCons (tVar 20) tNil))) rfl nd (pi_list (pv 8)) (blkOk_by (own := [("_law_line", 20)]) (N := N_law_right) (sc := defScope s_law_right) (by decide +kernel)) (fun _ _ _ _ _ => (pg_name (i := 20) nd rfl (Or.inl rfl))) (fun _ _ _ _ _ => pts_nil) (fun _ _ _ _ _ => (pe_callTy call_tupF (by rfl) T.tuple (by decide +kernel) (pa_cons (pv 20) pa_nil)))) pa_nil)) pa_nil))) pa_nil)) (nomark _)) (pss_one (ps_ret pe_bl)) pss_nil)
    (pss_cons (ps_if (pt_cmpR op_ne (pe_callB (call_reprD hg hr) (by rfl) T.repr (by decide +kernel) (pa_cons (pe_lst (pa_cons (pe_calK ck_knots_of (hr.mono (by decide)) (by rfl) (pk_cons (pv 4) pk_nil)) (pa_cons (pe_calK ck_stretches_of (hr.mono (by decide)) (by rfl) (pk_cons (pv 4) pk_nil)) pa_nil))) pa_nil)) (pe_callB (call_reprD hg hr) (by rfl) T.repr (by decide +kernel) (pa_cons (pe_lst (pa_cons (pe_cal c_knots_of (hr.mono (by decide)) (by rfl) (pa_cons (pv 4) pa_nil)) (pa_cons (pe_cal c_stretches_of (hr.mono (by decide)) (by rfl) (pa_cons (pv 4) pa_nil)) pa_nil))) pa_nil)) (nomark _)) (pss_one (ps_ret pe_bl)) pss_nil)
    (pss_cons (ps_set (i := 10) nd rfl (Or.inl rfl) (pe_cal c_plan_of (hr.mono (by decide)) (by rfl) (pa_cons (pv 4) pa_nil)))
    (pss_cons (ps_set (i := 11) nd rfl (Or.inl rfl) (pe_lst (pa_cons (pe_join pe_str (pv 5)) (pa_cons (pe_callTy call_tupF (by rfl) T.tuple (by decide +kernel) (pa_cons (pv 6) pa_nil)) (pa_cons (pv 7) (pa_cons (pe_callB call_len_seq (by rfl) T.len (by decide +kernel) (pa_cons (pv 3) pa_nil)) (pa_cons (pe_join pe_str (pv 1)) (pa_cons (pe_cal c_law_plan_text (hr.mono (by decide)) (by rfl) (pa_cons (pv 5) (pa_cons (pv 6) (pa_cons (pv 7) pa_nil)))) pa_nil))))))))
    (pss_cons (ps_if (pt_cmpR op_ne (pe_callB (call_reprD hg hr) (by rfl) T.repr (by decide +kernel) (pa_cons (pe_lst (pa_cons (pe_fld (pv 10) rfl) (pa_cons (pe_fld (pv 10) rfl) (pa_cons (pe_fld (pv 10) rfl) (pa_cons (pe_prp c_Plan_size (hr.mono (by decide)) (pv 10) rfl) (pa_cons (pe_fld (pv 10) rfl) (pa_cons (pe_prp c_Plan_text (hr.mono (by decide)) (pv 10) rfl) pa_nil))))))) pa_nil)) (pe_callB (call_reprD hg hr) (by rfl) T.repr (by decide +kernel) (pa_cons (pv 11) pa_nil)) (nomark _)) (pss_one (ps_ret pe_bl)) pss_nil)
    (pss_cons (ps_asg (pe_cal c_law_canon (hr.mono (by decide)) (by rfl) (pa_cons (pv 5) (pa_cons (pv 6) (pa_cons (pv 7) pa_nil)))) (pg_tup rfl (pgs_cons (pg_name (i := 12) nd rfl (Or.inl rfl)) (pgs_cons (pg_name (i := 13) nd rfl (Or.inl rfl)) pgs_nil))))
    (pss_cons (ps_if (pt_cmpR op_ne (pe_callB (call_reprD hg hr) (by rfl) T.repr (by decide +kernel) (pa_cons (pe_lst (pa_cons (pe_fld (pe_cal c_tidy (hr.mono (by decide)) (by rfl) (pa_cons (pv 4) pa_nil)) rfl) (pa_cons (pe_fld (pe_cal c_tidy (hr.mono (by decide)) (by rfl) (pa_cons (pv 4) pa_nil)) rfl) (pa_cons (pe_prp c_Plan_text (hr.mono (by decide)) (pe_calK ck_plan_of (hr.mono (by decide)) (by rfl) (pk_cons (pe_calK ck_tidy (hr.mono (by decide)) (by rfl) (pk_cons (pv 4) pk_nil)) pk_nil)) rfl) pa_nil)))) pa_nil)) (pe_callB (call_reprD hg hr) (by rfl) T.repr (by decide +kernel) (pa_cons (pe_lst (pa_cons (pv 12) (pa_cons (pv 13) (pa_cons (pe_ix ix_list (pv 11) pe_int (fun _ _ => rfl)) pa_nil)))) pa_nil)) (nomark _)) (pss_one (ps_ret pe_bl)) pss_nil)
    (pss_cons (ps_set (i := 14) nd rfl (Or.inl rfl) (pe_ifExp (pt_cmpR op_gt (pe_cal c_law_take (hr.mono (by decide)) (by rfl) (pa_cons (pv 0) (pa_cons pe_int pa_nil))) pe_int (nomark _)) (pv 1) (pe_cal c_law_letters (hr.mono (by decide)) (by rfl) (pa_cons (pv 0) (pa_cons (pe_callB call_len_seq (by rfl) T.len (by decide +kernel) (pa_cons (pv 1) pa_nil)) pa_nil)))))
    (pss_cons (ps_asg (pe_cal c_law_drawn_store (hr.mono (by decide)) (by rfl) (pa_cons (pv 0) (pa_cons (pv 14) (pa_cons pe_int pa_nil)))) (pg_tup rfl (pgs_cons (pg_name (i := 15) nd rfl (Or.inl rfl)) (pgs_cons (pg_name (i := 16) nd rfl (Or.inl rfl)) pgs_nil))))
    (pss_cons (ps_set (i := 17) nd rfl (Or.inl rfl) (pe_ifExp (pt_cmpR op_eq (pe_cal c_law_take (hr.mono (by decide)) (by rfl) (pa_cons (pv 0) (pa_cons pe_int pa_nil))) pe_int (nomark _)) (pe_mk c_Store_init (hr.mono (by decide)) rfl T.Store (pa_cons (pv 2) (pa_cons (pe_slice sl_tupF (pv 3) po_none (po_some (pe_un un_neg pe_int))) pa_nil))) (pe_mk c_Store_init (hr.mono (by decide)) rfl T.Store (pa_cons (pv 15) (pa_cons (pv 16) pa_nil)))))
    (pss_cons (ps_set (i := 18) nd rfl (Or.inl rfl) (pe_cmpR (op_eqD hr.units) (pe_slice sl_tupF (pe_cal c_law_plan (hr.mono (by decide)) (by rfl) (pa_cons (pe_fld (pv 17) rfl) (pa_cons (pe_fld (pv 17) rfl) pa_nil))) po_none (po_some pe_int)) (pe_tup (pa_cons (pv 5) (pa_cons (pv 6) (pa_cons (pv 7) pa_nil)))) (nomark _)))
    (pss_cons (ps_set (i := 19) nd rfl (Or.inl rfl) (pe_lst (pa_cons (pe_cal c_are_alike (hr.mono (by decide)) (by rfl) (pa_cons (pv 4) (pa_cons (pv 17) pa_nil))) (pa_cons (pe_cal c_are_alike (hr.mono (by decide)) (by rfl) (pa_cons (pv 17) (pa_cons (pv 4) pa_nil))) (pa_cons (pe_cmpR (op_peq c_Plan_eq (hr.mono (by decide))) (pe_cal c_plan_of (hr.mono (by decide)) (by rfl) (pa_cons (pv 17) pa_nil)) (pv 10) (nomark _)) (pa_cons (pe_calK ck_are_alike (hr.mono (by decide)) (by rfl) (pk_cons (pe_cal c_tidy (hr.mono (by decide)) (by rfl) (pa_cons (pv 4) pa_nil)) (pk_cons (pv 4) pk_nil))) pa_nil))))))
    (pss_one (ps_ret (pe_and (pe_cmpR op_eq (pe_callB (call_reprD hg hr) (by rfl) T.repr (by decide +kernel) (pa_cons (pv 19) pa_nil)) (pe_callB (call_reprD hg hr) (by rfl) T.repr (by decide +kernel) (pa_cons (pe_lst (pa_cons (pv 18) (pa_cons (pv 18) (pa_cons (pv 18) (pa_cons pe_bl pa_nil))))) pa_nil)) (nomark _)) (pe_one (pe_cmpR (op_eqD hr.units) (pe_fld (pv 4) rfl) (pv 3) (nomark _))))))))))))))))))))))
-- level 9
theorem sc_law : FnScope N_law ["_law_script"] (defScope s_law) := ⟨rfl, rfl, rfl, by decide +kernel, rfl, by decide +kernel, by decide +kernel⟩
theorem der_law {P : Program} {w : World} {K : PySem.W.Frag} {mg : Str → Option Value} {base : Heap} {cS cP f : Addr} {cd : Value} {A : Around} {outer : List Env} {s : Shared} {H : Hp} {E : XK} {sp_law_right sp_law_jug : Sp} (T : Txt K mg cS cP) (c_law_right : CalG P w K mg base 9 "_law_right" ["_law_jug_here"] sp_law_right) (c_law_jug : Cal P w K mg base 1 "_law_jug" ["_law_script", "_law_turn"] sp_law_jug) (hg : A.guards = some [])
    (hr : Room 9 (A.deeper (envOfC "law" (defScope s_law) s.heap.objs.size f cd))) :
    PSs (cxOf CX0 P w K mg base N_law "law" (defScope s_law) f cd A outer s H E).nox (defBody s_law) (t_law K cS cP sp_law_right sp_law_jug) := by
  have nd : N_law.Nodup := by decide +kernel
  exact (pss_one (ps_ret (pe_callB (cr_all rfl) (by rfl) T.all (by decide +kernel) (pa_cons (pe_lc (own := [("_law_turn", 1)]) (g := (gName 1)) (tt := tYes) (te := (tCl sp_law_right (tCons (tCl sp_law_jug (tCons (tVar 0) (tCons (tVar 1) tNil))) tNil))) rfl nd (pi_range1 (by rfl) T.range (pa_cons (pe_callB (call_max2 rfl) (by rfl) T.max (by decide +kernel) (pa_cons pe_int (pa_cons (pe_callB (call_min2 rfl) (by rfl) T.min (by decide +kernel) (pa_cons (pe_callB call_len_seq (by rfl) T.len (by decide +kernel) (pa_cons (pv 0) pa_nil)) (pa_cons pe_int pa_nil))) pa_nil))) pa_nil)) (blkOk_by (own := [("_law_turn", 1)]) (N := N_law) (sc := defScope s_law) (by decide +kernel)) (fun _ _ _ _ _ => (pg_name (i := 1) nd rfl (Or.inl rfl))) (fun _ _ _ _ _ => pts_nil) (fun _ _ _ _ _ => (pe_calG c_law_right hg (hr.mono (by decide)) (by rfl) (pa_cons (pe_cal c_law_jug (hr.mono (by decide)) (by rfl) (pa_cons (pv 0) (pa_cons (pv 1) pa_nil))) pa_nil)))) pa_nil))))
-- level 10
structure Ats (K : PySem.W.Frag) (mg : Str → Option Value) (cS cP : Addr) : Prop where
  a_knot_order : AtF K mg "knot_order" s_knot_order
  a_shape_of_knots : AtF K mg "shape_of_knots" s_shape_of_knots
  a_knots_in : AtF K mg "knots_in" s_knots_in
  a_is_whole : AtF K mg "is_whole" s_is_whole
  a_is_between : AtF K mg "is_between" s_is_between
  a_is_place : AtF K mg "is_place" s_is_place
  a_is_letter : AtF K mg "is_letter" s_is_letter
  a_is_pair : AtF K mg "is_pair" s_is_pair
  a_are_knots_right : AtF K mg "are_knots_right" s_are_knots_right
  a_has_needless_knot : AtF K mg "has_needless_knot" s_has_needless_knot
  a_shape_knots : AtF K mg "shape_knots" s_shape_knots
  a_are_name_pairs : AtF K mg "are_name_pairs" s_are_name_pairs
  a_check_cells : AtF K mg "check_cells" s_check_cells
  a_Store_init : AtMk K cS "Store.__init__" s_Store_init
  a_check_store : AtF K mg "check_store" s_check_store
  a_reached_cells : AtF K mg "reached_cells" s_reached_cells
  a_Plan_init : AtMk K cP "Plan.__init__" s_Plan_init
  a_Plan_eq : AtEq K cP "Plan.__eq__" s_Plan_eq
  a_Plan_size : AtPr K cP "size" "Plan.size" s_Plan_size
  a_Plan_text : AtPr K cP "text" "Plan.text" s_Plan_text
  a_check_plan : AtF K mg "check_plan" s_check_plan
  a_knot_places : AtF K mg "knot_places" s_knot_places
  a_ordered_knots : AtF K mg "ordered_knots" s_ordered_knots
  a_stretch_from : AtF K mg "stretch_from" s_stretch_from
  a_parts_of : AtF K mg "parts_of" s_parts_of
  a_knots_of : AtF K mg "knots_of" s_knots_of
  a_stretches_of : AtF K mg "stretches_of" s_stretches_of
  a_plan_of : AtF K mg "plan_of" s_plan_of
  a_cells_along : AtF K mg "cells_along" s_cells_along
  a_names_at : AtF K mg "names_at" s_names_at
  a_store_of : AtF K mg "store_of" s_store_of
  a_are_alike : AtF K mg "are_alike" s_are_alike
  a_tidy : AtF K mg "tidy" s_tidy
  a_law_jug : AtF K mg "_law_jug" s_law_jug
  a_law_take : AtF K mg "_law_take" s_law_take
  a_law_one_of : AtF K mg "_law_one_of" s_law_one_of
  a_law_letters : AtF K mg "_law_letters" s_law_letters
  a_law_drawn_cells : AtF K mg "_law_drawn_cells" s_law_drawn_cells
  a_law_drawn_store : AtF K mg "_law_drawn_store" s_law_drawn_store
  a_law_arrows : AtF K mg "_law_arrows" s_law_arrows
  a_law_gone_along : AtF K mg "_law_gone_along" s_law_gone_along
  a_law_knots : AtF K mg "_law_knots" s_law_knots
  a_law_plan : AtF K mg "_law_plan" s_law_plan
  a_law_plan_text : AtF K mg "_law_plan_text" s_law_plan_text
  a_law_word : AtF K mg "_law_word" s_law_word
  a_law_canon : AtF K mg "_law_canon" s_law_canon
  a_law_right : AtF K mg "_law_right" s_law_right
  a_law : AtF K mg "law" s_law
theorem ca_knot_order {P : Program} {w : World} {K : PySem.W.Frag} {mg : Str → Option Value} {base : Heap} {cS cP : Addr} (T : Txt K mg cS cP) (a : Ats K mg cS cP) : Cal P w K mg base 1 "knot_order" ["knots"] (p_knot_order K cS cP) := by
  obtain ⟨f, fd, hm, F⟩ := a.a_knot_order.ex
  exact ⟨f, fd, F.ok sc_knot_order (fun _ _ _ _ h => h.1) fun cdv A outer s H vs Q E hr h => ⟨_, PSs.nox (der_knot_order T hr), h.2⟩, hm, F.kp, ⟨_, _, F⟩, F.bindsN fun _ _ _ _ _ _ us hl => match us, hl with | [_], _ => rfl⟩
theorem ca_shape_of_knots {P : Program} {w : World} {K : PySem.W.Frag} {mg : Str → Option Value} {base : Heap} {cS cP : Addr} (T : Txt K mg cS cP) (a : Ats K mg cS cP) : Cal P w K mg base 1 "shape_of_knots" ["knots", "order"] (p_shape_of_knots K cS cP) := by
  obtain ⟨f, fd, hm, F⟩ := a.a_shape_of_knots.ex
  exact ⟨f, fd, F.ok sc_shape_of_knots (fun _ _ _ _ h => h.1) fun cdv A outer s H vs Q E hr h => ⟨_, PSs.nox (der_shape_of_knots T hr), h.2⟩, hm, F.kp, ⟨_, _, F⟩, F.bindsN fun _ _ _ _ _ _ us hl => match us, hl with | [_, _], _ => rfl⟩
theorem ca_knots_in {P : Program} {w : World} {K : PySem.W.Frag} {mg : Str → Option Value} {base : Heap} {cS cP : Addr} (T : Txt K mg cS cP) (a : Ats K mg cS cP) : Cal P w K mg base 1 "knots_in" ["shape"] (p_knots_in K cS cP) := by
  obtain ⟨f, fd, hm, F⟩ := a.a_knots_in.ex
  exact ⟨f, fd, F.ok sc_knots_in (fun _ _ _ _ h => h.1) fun cdv A outer s H vs Q E hr h => ⟨_, PSs.nox (der_knots_in T hr), h.2⟩, hm, F.kp, ⟨_, _, F⟩, F.bindsN fun _ _ _ _ _ _ us hl => match us, hl with | [_], _ => rfl⟩
theorem ca_is_whole {P : Program} {w : World} {K : PySem.W.Frag} {mg : Str → Option Value} {base : Heap} {cS cP : Addr} (T : Txt K mg cS cP) (a : Ats K mg cS cP) : Cal P w K mg base 1 "is_whole" ["value"] (p_is_whole K cS cP) := by
  obtain ⟨f, fd, hm, F⟩ := a.a_is_whole.ex
  exact ⟨f, fd, F.ok sc_is_whole (fun _ _ _ _ h => h.1) fun cdv A outer s H vs Q E hr h => ⟨_, PSs.nox (der_is_whole T hr), h.2⟩, hm, F.kp, ⟨_, _, F⟩, F.bindsN fun _ _ _ _ _ _ us hl => match us, hl with | [_], _ => rfl⟩
theorem ca_is_between {P : Program} {w : World} {K : PySem.W.Frag} {mg : Str → Option Value} {base : Heap} {cS cP : Addr} (T : Txt K mg cS cP) (a : Ats K mg cS cP) (c_is_whole : Cal P w K mg base 1 "is_whole" ["value"] (p_is_whole K cS cP)) : Cal P w K mg base 2 "is_between" ["value", "low", "high"] (p_is_between K cS cP) := by
  obtain ⟨f, fd, hm, F⟩ := a.a_is_between.ex
  exact ⟨f, fd, F.ok sc_is_between (fun _ _ _ _ h => h.1) fun cdv A outer s H vs Q E hr h => ⟨_, PSs.nox (der_is_between T c_is_whole hr), h.2⟩, hm, F.kp, ⟨_, _, F⟩, F.bindsN fun _ _ _ _ _ _ us hl => match us, hl with | [_, _, _], _ => rfl⟩
theorem ca_is_place {P : Program} {w : World} {K : PySem.W.Frag} {mg : Str → Option Value} {base : Heap} {cS cP : Addr} (T : Txt K mg cS cP) (a : Ats K mg cS cP) (c_is_between : Cal P w K mg base 2 "is_between" ["value", "low", "high"] (p_is_between K cS cP)) : Cal P w K mg base 3 "is_place" ["value"] (p_is_place K cS cP) := by
  obtain ⟨f, fd, hm, F⟩ := a.a_is_place.ex
  exact ⟨f, fd, F.ok sc_is_place (fun _ _ _ _ h => h.1) fun cdv A outer s H vs Q E hr h => ⟨_, PSs.nox (der_is_place T c_is_between hr), h.2⟩, hm, F.kp, ⟨_, _, F⟩, F.bindsN fun _ _ _ _ _ _ us hl => match us, hl with | [_], _ => rfl⟩
theorem ca_is_letter {P : Program} {w : World} {K : PySem.W.Frag} {mg : Str → Option Value} {base : Heap} {cS cP : Addr} (T : Txt K mg cS cP) (a : Ats K mg cS cP) : Cal P w K mg base 1 "is_letter" ["value"] (p_is_letter K cS cP) := by
  obtain ⟨f, fd, hm, F⟩ := a.a_is_letter.ex
  exact ⟨f, fd, F.ok sc_is_letter (fun _ _ _ _ h => h.1) fun cdv A outer s H vs Q E hr h => ⟨_, PSs.nox (der_is_letter T hr), h.2⟩, hm, F.kp, ⟨_, _, F⟩, F.bindsN fun _ _ _ _ _ _ us hl => match us, hl with | [_], _ => rfl⟩
theorem ca_is_pair {P : Program} {w : World} {K : PySem.W.Frag} {mg : Str → Option Value} {base : Heap} {cS cP : Addr} (T : Txt K mg cS cP) (a : Ats K mg cS cP) : Cal P w K mg base 1 "is_pair" ["value"] (p_is_pair K cS cP) := by
  obtain ⟨f, fd, hm, F⟩ := a.a_is_pair.ex
  exact ⟨f, fd, F.ok sc_is_pair (fun _ _ _ _ h => h.1) fun cdv A outer s H vs Q E hr h => ⟨_, PSs.nox (der_is_pair T hr), h.2⟩, hm, F.kp, ⟨_, _, F⟩, F.bindsN fun _ _ _ _ _ _ us hl => match us, hl with | [_], _ => rfl⟩
theorem ca_are_knots_right {P : Program} {w : World} {K : PySem.W.Frag} {mg : Str → Option Value} {base : Heap} {cS cP : Addr} (T : Txt K mg cS cP) (a : Ats K mg cS cP) : Cal P w K mg base 1 "are_knots_right" ["knots"] (p_are_knots_right K cS cP) := by
  obtain ⟨f, fd, hm, F⟩ := a.a_are_knots_right.ex
  exact ⟨f, fd, F.ok sc_are_knots_right (fun _ _ _ _ h => h.1) fun cdv A outer s H vs Q E hr h => ⟨_, PSs.nox (der_are_knots_right T hr), h.2⟩, hm, F.kp, ⟨_, _, F⟩, F.bindsN fun _ _ _ _ _ _ us hl => match us, hl with | [_], _ => rfl⟩
theorem ca_has_needless_knot {P : Program} {w : World} {K : PySem.W.Frag} {mg : Str → Option Value} {base : Heap} {cS cP : Addr} (T : Txt K mg cS cP) (a : Ats K mg cS cP) : Cal P w K mg base 1 "has_needless_knot" ["knots"] (p_has_needless_knot K cS cP) := by
  obtain ⟨f, fd, hm, F⟩ := a.a_has_needless_knot.ex
  exact ⟨f, fd, F.ok sc_has_needless_knot (fun _ _ _ _ h => h.1) fun cdv A outer s H vs Q E hr h => ⟨_, PSs.nox (der_has_needless_knot T hr), h.2⟩, hm, F.kp, ⟨_, _, F⟩, F.bindsN fun _ _ _ _ _ _ us hl => match us, hl with | [_], _ => rfl⟩
theorem ca_shape_knots {P : Program} {w : World} {K : PySem.W.Frag} {mg : Str → Option Value} {base : Heap} {cS cP : Addr} (T : Txt K mg cS cP) (a : Ats K mg cS cP) (c_knots_in : Cal P w K mg base 1 "knots_in" ["shape"] (p_knots_in K cS cP)) (c_are_knots_right : Cal P w K mg base 1 "are_knots_right" ["knots"] (p_are_knots_right K cS cP)) (c_has_needless_knot : Cal P w K mg base 1 "has_needless_knot" ["knots"] (p_has_needless_knot K cS cP)) (c_knot_order : Cal P w K mg base 1 "knot_order" ["knots"] (p_knot_order K cS cP)) (c_shape_of_knots : Cal P w K mg base 1 "shape_of_knots" ["knots", "order"] (p_shape_of_knots K cS cP)) : Cal P w K mg base 2 "shape_knots" ["value"] (p_shape_knots K cS cP) := by
  obtain ⟨f, fd, hm, F⟩ := a.a_shape_knots.ex
  exact ⟨f, fd, F.ok sc_shape_knots (fun _ _ _ _ h => h.1) fun cdv A outer s H vs Q E hr h => ⟨_, PSs.nox (der_shape_knots T c_knots_in c_are_knots_right c_has_needless_knot c_knot_order c_shape_of_knots hr), h.2⟩, hm, F.kp, ⟨_, _, F⟩, F.bindsN fun _ _ _ _ _ _ us hl => match us, hl with | [_], _ => rfl⟩
theorem ca_are_name_pairs {P : Program} {w : World} {K : PySem.W.Frag} {mg : Str → Option Value} {base : Heap} {cS cP : Addr} (T : Txt K mg cS cP) (a : Ats K mg cS cP) (c_is_pair : Cal P w K mg base 1 "is_pair" ["value"] (p_is_pair K cS cP)) (c_is_letter : Cal P w K mg base 1 "is_letter" ["value"] (p_is_letter K cS cP)) (c_is_place : Cal P w K mg base 3 "is_place" ["value"] (p_is_place K cS cP)) : Cal P w K mg base 4 "are_name_pairs" ["value"] (p_are_name_pairs K cS cP) := by
  obtain ⟨f, fd, hm, F⟩ := a.a_are_name_pairs.ex
  exact ⟨f, fd, F.ok sc_are_name_pairs (fun _ _ _ _ h => h.1) fun cdv A outer s H vs Q E hr h => ⟨_, PSs.nox (der_are_name_pairs T c_is_pair c_is_letter c_is_place hr), h.2⟩, hm, F.kp, ⟨_, _, F⟩, F.bindsN fun _ _ _ _ _ _ us hl => match us, hl with | [_], _ => rfl⟩
theorem ca_check_cells {P : Program} {w : World} {K : PySem.W.Frag} {mg : Str → Option Value} {base : Heap} {cS cP : Addr} (T : Txt K mg cS cP) (a : Ats K mg cS cP) (c_is_pair : Cal P w K mg base 1 "is_pair" ["value"] (p_is_pair K cS cP)) (c_is_place : Cal P w K mg base 3 "is_place" ["value"] (p_is_place K cS cP)) : Cal P w K mg base 4 "check_cells" ["value"] (p_check_cells K cS cP) := by
  obtain ⟨f, fd, hm, F⟩ := a.a_check_cells.ex
  exact ⟨f, fd, F.ok sc_check_cells (fun _ _ _ _ h => h.1) fun cdv A outer s H vs Q E hr h => ⟨_, PSs.nox (der_check_cells T c_is_pair c_is_place hr), h.2⟩, hm, F.kp, ⟨_, _, F⟩, F.bindsN fun _ _ _ _ _ _ us hl => match us, hl with | [_], _ => rfl⟩
theorem ca_Store_init {P : Program} {w : World} {K : PySem.W.Frag} {mg : Str → Option Value} {base : Heap} {cS cP : Addr} (T : Txt K mg cS cP) (a : Ats K mg cS cP) (c_are_name_pairs : Cal P w K mg base 4 "are_name_pairs" ["value"] (p_are_name_pairs K cS cP)) (c_check_cells : Cal P w K mg base 4 "check_cells" ["value"] (p_check_cells K cS cP)) : CalMk P w K mg base 5 cS ["self", "names", "cells"] (p_Store_init K cS cP) := by
  obtain ⟨f, fd, hm, F⟩ := a.a_Store_init.ex
  exact ⟨f, fd, F.ok sc_Store_init (fun _ _ _ _ h => h.1) fun cdv A outer s H vs Q E hr h => ⟨_, PSs.nox (der_Store_init T c_are_name_pairs c_check_cells hr), h.2⟩, hm, F.bindsN fun _ _ _ _ _ _ us hl => match us, hl with | [_, _, _], _ => rfl⟩
theorem ca_check_store {P : Program} {w : World} {K : PySem.W.Frag} {mg : Str → Option Value} {base : Heap} {cS cP : Addr} (T : Txt K mg cS cP) (a : Ats K mg cS cP) : Cal P w K mg base 1 "check_store" ["value"] (p_check_store K cS cP) := by
  obtain ⟨f, fd, hm, F⟩ := a.a_check_store.ex
  exact ⟨f, fd, F.ok sc_check_store (fun _ _ _ _ h => h.1) fun cdv A outer s H vs Q E hr h => ⟨_, PSs.nox (der_check_store T hr), h.2⟩, hm, F.kp, ⟨_, _, F⟩, F.bindsN fun _ _ _ _ _ _ us hl => match us, hl with | [_], _ => rfl⟩
theorem ca_reached_cells {P : Program} {w : World} {K : PySem.W.Frag} {mg : Str → Option Value} {base : Heap} {cS cP : Addr} (T : Txt K mg cS cP) (a : Ats K mg cS cP) : Cal P w K mg base 1 "reached_cells" ["store"] (p_reached_cells K cS cP) := by
  obtain ⟨f, fd, hm, F⟩ := a.a_reached_cells.ex
  exact ⟨f, fd, F.ok sc_reached_cells (fun _ _ _ _ h => h.1) fun cdv A outer s H vs Q E hr h => ⟨_, PSs.nox (der_reached_cells T hr), h.2⟩, hm, F.kp, ⟨_, _, F⟩, F.bindsN fun _ _ _ _ _ _ us hl => match us, hl with | [_], _ => rfl⟩
theorem ca_Plan_init {P : Program} {w : World} {K : PySem.W.Frag} {mg : Str → Option Value} {base : Heap} {cS cP : Addr} (T : Txt K mg cS cP) (a : Ats K mg cS cP) (c_shape_knots : Cal P w K mg base 2 "shape_knots" ["value"] (p_shape_knots K cS cP)) (c_is_between : Cal P w K mg base 2 "is_between" ["value", "low", "high"] (p_is_between K cS cP)) : CalMk P w K mg base 3 cP ["self", "shape", "lengths", "lost"] (p_Plan_init K cS cP) := by
  obtain ⟨f, fd, hm, F⟩ := a.a_Plan_init.ex
  exact ⟨f, fd, F.ok sc_Plan_init (fun _ _ _ _ h => h.1) fun cdv A outer s H vs Q E hr h => ⟨_, PSs.nox (der_Plan_init T c_shape_knots c_is_between hr), h.2⟩, hm, F.bindsN fun _ _ _ _ _ _ us hl => match us, hl with | [_, _, _, _], _ => rfl⟩
theorem ca_Plan_eq {P : Program} {w : World} {K : PySem.W.Frag} {mg : Str → Option Value} {base : Heap} {cS cP : Addr} (T : Txt K mg cS cP) (a : Ats K mg cS cP) : CalEq P w K mg base 1 cP (p_Plan_eq K cS cP) := by
  obtain ⟨f, fd, h1, h2, F⟩ := a.a_Plan_eq.ex
  exact ⟨f, fd, F.ok sc_Plan_eq (fun _ _ _ _ h => h.1) fun cdv A outer s H vs Q E hr h => ⟨_, PSs.nox (der_Plan_eq T hr), h.2⟩, h1, h2, F.bindsN fun _ _ _ _ _ _ us hl => match us, hl with | [_, _], _ => rfl⟩
theorem ca_Plan_size {P : Program} {w : World} {K : PySem.W.Frag} {mg : Str → Option Value} {base : Heap} {cS cP : Addr} (T : Txt K mg cS cP) (a : Ats K mg cS cP) : CalPr P w K mg base 1 cP "size" (p_Plan_size K cS cP) := by
  obtain ⟨p, f, fd, hp, F⟩ := a.a_Plan_size.ex
  exact ⟨p, f, fd, F.ok sc_Plan_size (fun _ _ _ _ h => h.1) fun cdv A outer s H vs Q E hr h => ⟨_, PSs.nox (der_Plan_size T hr), h.2⟩, hp, T.clP, F.bindsN fun _ _ _ _ _ _ us hl => match us, hl with | [_], _ => rfl⟩
theorem ca_Plan_text {P : Program} {w : World} {K : PySem.W.Frag} {mg : Str → Option Value} {base : Heap} {cS cP : Addr} (T : Txt K mg cS cP) (a : Ats K mg cS cP) : CalPr P w K mg base 1 cP "text" (p_Plan_text K cS cP) := by
  obtain ⟨p, f, fd, hp, F⟩ := a.a_Plan_text.ex
  exact ⟨p, f, fd, F.ok sc_Plan_text (fun _ _ _ _ h => h.1) fun cdv A outer s H vs Q E hr h => ⟨_, PSs.nox (der_Plan_text T hr), h.2⟩, hp, T.clP, F.bindsN fun _ _ _ _ _ _ us hl => match us, hl with | [_], _ => rfl⟩
theorem ca_check_plan {P : Program} {w : World} {K : PySem.W.Frag} {mg : Str → Option Value} {base : Heap} {cS cP : Addr} (T : Txt K mg cS cP) (a : Ats K mg cS cP) : Cal P w K mg base 1 "check_plan" ["value"] (p_check_plan K cS cP) := by
  obtain ⟨f, fd, hm, F⟩ := a.a_check_plan.ex
  exact ⟨f, fd, F.ok sc_check_plan (fun _ _ _ _ h => h.1) fun cdv A outer s H vs Q E hr h => ⟨_, PSs.nox (der_check_plan T hr), h.2⟩, hm, F.kp, ⟨_, _, F⟩, F.bindsN fun _ _ _ _ _ _ us hl => match us, hl with | [_], _ => rfl⟩
theorem ca_knot_places {P : Program} {w : World} {K : PySem.W.Frag} {mg : Str → Option Value} {base : Heap} {cS cP : Addr} (T : Txt K mg cS cP) (a : Ats K mg cS cP) : Cal P w K mg base 1 "knot_places" ["store", "reached"] (p_knot_places K cS cP) := by
  obtain ⟨f, fd, hm, F⟩ := a.a_knot_places.ex
  exact ⟨f, fd, F.ok sc_knot_places (fun _ _ _ _ h => h.1) fun cdv A outer s H vs Q E hr h => ⟨_, PSs.nox (der_knot_places T hr), h.2⟩, hm, F.kp, ⟨_, _, F⟩, F.bindsN fun _ _ _ _ _ _ us hl => match us, hl with | [_, _], _ => rfl⟩
theorem ca_ordered_knots {P : Program} {w : World} {K : PySem.W.Frag} {mg : Str → Option Value} {base : Heap} {cS cP : Addr} (T : Txt K mg cS cP) (a : Ats K mg cS cP) : Cal P w K mg base 1 "ordered_knots" ["store", "places"] (p_ordered_knots K cS cP) := by
  obtain ⟨f, fd, hm, F⟩ := a.a_ordered_knots.ex
  exact ⟨f, fd, F.ok sc_ordered_knots (fun _ _ _ _ h => h.1) fun cdv A outer s H vs Q E hr h => ⟨_, PSs.nox (der_ordered_knots T hr), h.2⟩, hm, F.kp, ⟨_, _, F⟩, F.bindsN fun _ _ _ _ _ _ us hl => match us, hl with | [_, _], _ => rfl⟩
theorem ca_stretch_from {P : Program} {w : World} {K : PySem.W.Frag} {mg : Str → Option Value} {base : Heap} {cS cP : Addr} (T : Txt K mg cS cP) (a : Ats K mg cS cP) : Cal P w K mg base 1 "stretch_from" ["store", "places", "place"] (p_stretch_from K cS cP) := by
  obtain ⟨f, fd, hm, F⟩ := a.a_stretch_from.ex
  exact ⟨f, fd, F.ok sc_stretch_from (fun _ _ _ _ h => h.1) fun cdv A outer s H vs Q E hr h => ⟨_, PSs.nox (der_stretch_from T hr), h.2⟩, hm, F.kp, ⟨_, _, F⟩, F.bindsN fun _ _ _ _ _ _ us hl => match us, hl with | [_, _, _], _ => rfl⟩
theorem ca_parts_of {P : Program} {w : World} {K : PySem.W.Frag} {mg : Str → Option Value} {base : Heap} {cS cP : Addr} (T : Txt K mg cS cP) (a : Ats K mg cS cP) (c_knot_places : Cal P w K mg base 1 "knot_places" ["store", "reached"] (p_knot_places K cS cP)) (c_reached_cells : Cal P w K mg base 1 "reached_cells" ["store"] (p_reached_cells K cS cP)) (c_ordered_knots : Cal P w K mg base 1 "ordered_knots" ["store", "places"] (p_ordered_knots K cS cP)) (c_stretch_from : Cal P w K mg base 1 "stretch_from" ["store", "places", "place"] (p_stretch_from K cS cP)) : Cal P w K mg base 2 "parts_of" ["store"] (p_parts_of K cS cP) := by
  obtain ⟨f, fd, hm, F⟩ := a.a_parts_of.ex
  exact ⟨f, fd, F.ok sc_parts_of (fun _ _ _ _ h => h.1) fun cdv A outer s H vs Q E hr h => ⟨_, PSs.nox (der_parts_of T c_knot_places c_reached_cells c_ordered_knots c_stretch_from hr), h.2⟩, hm, F.kp, ⟨_, _, F⟩, F.bindsN fun _ _ _ _ _ _ us hl => match us, hl with | [_], _ => rfl⟩
theorem ca_knots_of {P : Program} {w : World} {K : PySem.W.Frag} {mg : Str → Option Value} {base : Heap} {cS cP : Addr} (T : Txt K mg cS cP) (a : Ats K mg cS cP) (c_check_store : Cal P w K mg base 1 "check_store" ["value"] (p_check_store K cS cP)) (c_parts_of : Cal P w K mg base 2 "parts_of" ["store"] (p_parts_of K cS cP)) : Cal P w K mg base 3 "knots_of" ["store"] (p_knots_of K cS cP) := by
  obtain ⟨f, fd, hm, F⟩ := a.a_knots_of.ex
  exact ⟨f, fd, F.ok sc_knots_of (fun _ _ _ _ h => h.1) fun cdv A outer s H vs Q E hr h => ⟨_, PSs.nox (der_knots_of T c_check_store c_parts_of hr), h.2⟩, hm, F.kp, ⟨_, _, F⟩, F.bindsN fun _ _ _ _ _ _ us hl => match us, hl with | [_], _ => rfl⟩
theorem ck_knots_of {P : Program} {w : World} {K : PySem.W.Frag} {mg : Str → Option Value} {base : Heap} {cS cP : Addr} (a : Ats K mg cS cP) (c : Cal P w K mg base 3 "knots_of" ["store"] (p_knots_of K cS cP)) : CalK P w K mg base 3 "knots_of" ["store"] (p_knots_of K cS cP) ["store"] false := ck_of c a.a_knots_of fun _ _ _ _ _ _ ws hl => match ws, hl with | [_], _ => rfl
theorem ca_stretches_of {P : Program} {w : World} {K : PySem.W.Frag} {mg : Str → Option Value} {base : Heap} {cS cP : Addr} (T : Txt K mg cS cP) (a : Ats K mg cS cP) (c_check_store : Cal P w K mg base 1 "check_store" ["value"] (p_check_store K cS cP)) (c_parts_of : Cal P w K mg base 2 "parts_of" ["store"] (p_parts_of K cS cP)) : Cal P w K mg base 3 "stretches_of" ["store"] (p_stretches_of K cS cP) := by
  obtain ⟨f, fd, hm, F⟩ := a.a_stretches_of.ex
  exact ⟨f, fd, F.ok sc_stretches_of (fun _ _ _ _ h => h.1) fun cdv A outer s H vs Q E hr h => ⟨_, PSs.nox (der_stretches_of T c_check_store c_parts_of hr), h.2⟩, hm, F.kp, ⟨_, _, F⟩, F.bindsN fun _ _ _ _ _ _ us hl => match us, hl with | [_], _ => rfl⟩
theorem ck_stretches_of {P : Program} {w : World} {K : PySem.W.Frag} {mg : Str → Option Value} {base : Heap} {cS cP : Addr} (a : Ats K mg cS cP) (c : Cal P w K mg base 3 "stretches_of" ["store"] (p_stretches_of K cS cP)) : CalK P w K mg base 3 "stretches_of" ["store"] (p_stretches_of K cS cP) ["store"] false := ck_of c a.a_stretches_of fun _ _ _ _ _ _ ws hl => match ws, hl with | [_], _ => rfl
theorem ca_plan_of {P : Program} {w : World} {K : PySem.W.Frag} {mg : Str → Option Value} {base : Heap} {cS cP : Addr} (T : Txt K mg cS cP) (a : Ats K mg cS cP) (c_check_store : Cal P w K mg base 1 "check_store" ["value"] (p_check_store K cS cP)) (c_parts_of : Cal P w K mg base 2 "parts_of" ["store"] (p_parts_of K cS cP)) (c_Plan_init : CalMk P w K mg base 3 cP ["self", "shape", "lengths", "lost"] (p_Plan_init K cS cP)) (c_shape_of_knots : Cal P w K mg base 1 "shape_of_knots" ["knots", "order"] (p_shape_of_knots K cS cP)) : Cal P w K mg base 5 "plan_of" ["store"] (p_plan_of K cS cP) := by
  obtain ⟨f, fd, hm, F⟩ := a.a_plan_of.ex
  exact ⟨f, fd, F.ok sc_plan_of (fun _ _ _ _ h => h.1) fun cdv A outer s H vs Q E hr h => ⟨_, PSs.nox (der_plan_of T c_check_store c_parts_of c_Plan_init c_shape_of_knots hr), h.2⟩, hm, F.kp, ⟨_, _, F⟩, F.bindsN fun _ _ _ _ _ _ us hl => match us, hl with | [_], _ => rfl⟩
theorem ck_plan_of {P : Program} {w : World} {K : PySem.W.Frag} {mg : Str → Option Value} {base : Heap} {cS cP : Addr} (a : Ats K mg cS cP) (c : Cal P w K mg base 5 "plan_of" ["store"] (p_plan_of K cS cP)) : CalK P w K mg base 5 "plan_of" ["store"] (p_plan_of K cS cP) ["store"] false := ck_of c a.a_plan_of fun _ _ _ _ _ _ ws hl => match ws, hl with | [_], _ => rfl
theorem ca_cells_along {P : Program} {w : World} {K : PySem.W.Frag} {mg : Str → Option Value} {base : Heap} {cS cP : Addr} (T : Txt K mg cS cP) (a : Ats K mg cS cP) : Cal P w K mg base 1 "cells_along" ["plan", "knots", "places"] (p_cells_along K cS cP) := by
  obtain ⟨f, fd, hm, F⟩ := a.a_cells_along.ex
  exact ⟨f, fd, F.ok sc_cells_along (fun _ _ _ _ h => h.1) fun cdv A outer s H vs Q E hr h => ⟨_, PSs.nox (der_cells_along T hr), h.2⟩, hm, F.kp, ⟨_, _, F⟩, F.bindsN fun _ _ _ _ _ _ us hl => match us, hl with | [_, _, _], _ => rfl⟩
theorem ca_names_at {P : Program} {w : World} {K : PySem.W.Frag} {mg : Str → Option Value} {base : Heap} {cS cP : Addr} (T : Txt K mg cS cP) (a : Ats K mg cS cP) : Cal P w K mg base 1 "names_at" ["knots", "places"] (p_names_at K cS cP) := by
  obtain ⟨f, fd, hm, F⟩ := a.a_names_at.ex
  exact ⟨f, fd, F.ok sc_names_at (fun _ _ _ _ h => h.1) fun cdv A outer s H vs Q E hr h => ⟨_, PSs.nox (der_names_at T hr), h.2⟩, hm, F.kp, ⟨_, _, F⟩, F.bindsN fun _ _ _ _ _ _ us hl => match us, hl with | [_, _], _ => rfl⟩
theorem ca_store_of {P : Program} {w : World} {K : PySem.W.Frag} {mg : Str → Option Value} {base : Heap} {cS cP : Addr} (T : Txt K mg cS cP) (a : Ats K mg cS cP) (c_check_plan : Cal P w K mg base 1 "check_plan" ["value"] (p_check_plan K cS cP)) (c_Plan_size : CalPr P w K mg base 1 cP "size" (p_Plan_size K cS cP)) (c_knots_in : Cal P w K mg base 1 "knots_in" ["shape"] (p_knots_in K cS cP)) (c_Store_init : CalMk P w K mg base 5 cS ["self", "names", "cells"] (p_Store_init K cS cP)) (c_cells_along : Cal P w K mg base 1 "cells_along" ["plan", "knots", "places"] (p_cells_along K cS cP)) (c_names_at : Cal P w K mg base 1 "names_at" ["knots", "places"] (p_names_at K cS cP)) : Cal P w K mg base 7 "store_of" ["plan"] (p_store_of K cS cP) := by
  obtain ⟨f, fd, hm, F⟩ := a.a_store_of.ex
  exact ⟨f, fd, F.ok sc_store_of (fun _ _ _ _ h => h.1) fun cdv A outer s H vs Q E hr h => ⟨_, PSs.nox (der_store_of T c_check_plan c_Plan_size c_knots_in c_Store_init c_cells_along c_names_at hr), h.2⟩, hm, F.kp, ⟨_, _, F⟩, F.bindsN fun _ _ _ _ _ _ us hl => match us, hl with | [_], _ => rfl⟩
theorem ca_are_alike {P : Program} {w : World} {K : PySem.W.Frag} {mg : Str → Option Value} {base : Heap} {cS cP : Addr} (T : Txt K mg cS cP) (a : Ats K mg cS cP) (c_check_store : Cal P w K mg base 1 "check_store" ["value"] (p_check_store K cS cP)) (c_plan_of : Cal P w K mg base 5 "plan_of" ["store"] (p_plan_of K cS cP)) (c_Plan_eq : CalEq P w K mg base 1 cP (p_Plan_eq K cS cP)) : Cal P w K mg base 6 "are_alike" ["store", "other"] (p_are_alike K cS cP) := by
  obtain ⟨f, fd, hm, F⟩ := a.a_are_alike.ex
  exact ⟨f, fd, F.ok sc_are_alike (fun _ _ _ _ h => h.1) fun cdv A outer s H vs Q E hr h => ⟨_, PSs.nox (der_are_alike T c_check_store c_plan_of c_Plan_eq hr), h.2⟩, hm, F.kp, ⟨_, _, F⟩, F.bindsN fun _ _ _ _ _ _ us hl => match us, hl with | [_, _], _ => rfl⟩
theorem ck_are_alike {P : Program} {w : World} {K : PySem.W.Frag} {mg : Str → Option Value} {base : Heap} {cS cP : Addr} (a : Ats K mg cS cP) (c : Cal P w K mg base 6 "are_alike" ["store", "other"] (p_are_alike K cS cP)) : CalK P w K mg base 6 "are_alike" ["store", "other"] (p_are_alike K cS cP) ["other", "store"] true := ck_of c a.a_are_alike fun _ _ _ _ _ _ ws hl => match ws, hl with | [_, _], _ => rfl
theorem ca_tidy {P : Program} {w : World} {K : PySem.W.Frag} {mg : Str → Option Value} {base : Heap} {cS cP : Addr} (T : Txt K mg cS cP) (a : Ats K mg cS cP) (c_store_of : Cal P w K mg base 7 "store_of" ["plan"] (p_store_of K cS cP)) (c_plan_of : Cal P w K mg base 5 "plan_of" ["store"] (p_plan_of K cS cP)) : Cal P w K mg base 8 "tidy" ["store"] (p_tidy K cS cP) := by
  obtain ⟨f, fd, hm, F⟩ := a.a_tidy.ex
  exact ⟨f, fd, F.ok sc_tidy (fun _ _ _ _ h => h.1) fun cdv A outer s H vs Q E hr h => ⟨_, PSs.nox (der_tidy T c_store_of c_plan_of hr), h.2⟩, hm, F.kp, ⟨_, _, F⟩, F.bindsN fun _ _ _ _ _ _ us hl => match us, hl with | [_], _ => rfl⟩
theorem ck_tidy {P : Program} {w : World} {K : PySem.W.Frag} {mg : Str → Option Value} {base : Heap} {cS cP : Addr} (a : Ats K mg cS cP) (c : Cal P w K mg base 8 "tidy" ["store"] (p_tidy K cS cP)) : CalK P w K mg base 8 "tidy" ["store"] (p_tidy K cS cP) ["store"] false := ck_of c a.a_tidy fun _ _ _ _ _ _ ws hl => match ws, hl with | [_], _ => rfl
theorem ca_law_jug {P : Program} {w : World} {K : PySem.W.Frag} {mg : Str → Option Value} {base : Heap} {cS cP : Addr} (T : Txt K mg cS cP) (a : Ats K mg cS cP) : Cal P w K mg base 1 "_law_jug" ["_law_script", "_law_turn"] (p_law_jug K cS cP) := by
  obtain ⟨f, fd, hm, F⟩ := a.a_law_jug.ex
  exact ⟨f, fd, F.ok sc_law_jug (fun _ _ _ _ h => h.1) fun cdv A outer s H vs Q E hr h => ⟨_, PSs.nox (der_law_jug T hr), h.2⟩, hm, F.kp, ⟨_, _, F⟩, F.bindsN fun _ _ _ _ _ _ us hl => match us, hl with | [_, _], _ => rfl⟩
theorem ca_law_take {P : Program} {w : World} {K : PySem.W.Frag} {mg : Str → Option Value} {base : Heap} {cS cP : Addr} (T : Txt K mg cS cP) (a : Ats K mg cS cP) : Cal P w K mg base 1 "_law_take" ["_law_jug_here", "_law_many"] (p_law_take K cS cP) := by
  obtain ⟨f, fd, hm, F⟩ := a.a_law_take.ex
  exact ⟨f, fd, F.ok sc_law_take (fun _ _ _ _ h => h.1) fun cdv A outer s H vs Q E hr h => ⟨_, PSs.nox (der_law_take T hr), h.2⟩, hm, F.kp, ⟨_, _, F⟩, F.bindsN fun _ _ _ _ _ _ us hl => match us, hl with | [_, _], _ => rfl⟩
theorem ca_law_one_of {P : Program} {w : World} {K : PySem.W.Frag} {mg : Str → Option Value} {base : Heap} {cS cP : Addr} (T : Txt K mg cS cP) (a : Ats K mg cS cP) (c_law_take : Cal P w K mg base 1 "_law_take" ["_law_jug_here", "_law_many"] (p_law_take K cS cP)) : Cal P w K mg base 2 "_law_one_of" ["_law_jug_here", "_law_some"] (p_law_one_of K cS cP) := by
  obtain ⟨f, fd, hm, F⟩ := a.a_law_one_of.ex
  exact ⟨f, fd, F.ok sc_law_one_of (fun _ _ _ _ h => h.1) fun cdv A outer s H vs Q E hr h => ⟨_, PSs.nox (der_law_one_of T c_law_take hr), h.2⟩, hm, F.kp, ⟨_, _, F⟩, F.bindsN fun _ _ _ _ _ _ us hl => match us, hl with | [_, _], _ => rfl⟩
theorem ca_law_letters {P : Program} {w : World} {K : PySem.W.Frag} {mg : Str → Option Value} {base : Heap} {cS cP : Addr} (T : Txt K mg cS cP) (a : Ats K mg cS cP) (c_law_one_of : Cal P w K mg base 2 "_law_one_of" ["_law_jug_here", "_law_some"] (p_law_one_of K cS cP)) (c_law_take : Cal P w K mg base 1 "_law_take" ["_law_jug_here", "_law_many"] (p_law_take K cS cP)) : Cal P w K mg base 3 "_law_letters" ["_law_jug_here", "_law_many"] (p_law_letters K cS cP) := by
  obtain ⟨f, fd, hm, F⟩ := a.a_law_letters.ex
  exact ⟨f, fd, F.ok sc_law_letters (fun _ _ _ _ h => h.1) fun cdv A outer s H vs Q E hr h => ⟨_, PSs.nox (der_law_letters T c_law_one_of c_law_take hr), h.2⟩, hm, F.kp, ⟨_, _, F⟩, F.bindsN fun _ _ _ _ _ _ us hl => match us, hl with | [_, _], _ => rfl⟩
theorem ca_law_drawn_cells {P : Program} {w : World} {K : PySem.W.Frag} {mg : Str → Option Value} {base : Heap} {cS cP : Addr} (T : Txt K mg cS cP) (a : Ats K mg cS cP) (c_law_take : Cal P w K mg base 1 "_law_take" ["_law_jug_here", "_law_many"] (p_law_take K cS cP)) (c_law_one_of : Cal P w K mg base 2 "_law_one_of" ["_law_jug_here", "_law_some"] (p_law_one_of K cS cP)) : Cal P w K mg base 3 "_law_drawn_cells" ["_law_jug_here", "_law_most"] (p_law_drawn_cells K cS cP) := by
  obtain ⟨f, fd, hm, F⟩ := a.a_law_drawn_cells.ex
  exact ⟨f, fd, F.ok sc_law_drawn_cells (fun _ _ _ _ h => h.1) fun cdv A outer s H vs Q E hr h => ⟨_, PSs.nox (der_law_drawn_cells T c_law_take c_law_one_of hr), h.2⟩, hm, F.kp, ⟨_, _, F⟩, F.bindsN fun _ _ _ _ _ _ us hl => match us, hl with | [_, _], _ => rfl⟩
theorem ca_law_drawn_store {P : Program} {w : World} {K : PySem.W.Frag} {mg : Str → Option Value} {base : Heap} {cS cP : Addr} (T : Txt K mg cS cP) (a : Ats K mg cS cP) (c_law_drawn_cells : Cal P w K mg base 3 "_law_drawn_cells" ["_law_jug_here", "_law_most"] (p_law_drawn_cells K cS cP)) (c_law_one_of : Cal P w K mg base 2 "_law_one_of" ["_law_jug_here", "_law_some"] (p_law_one_of K cS cP)) : Cal P w K mg base 4 "_law_drawn_store" ["_law_jug_here", "_law_letters_here", "_law_most"] (p_law_drawn_store K cS cP) := by
  obtain ⟨f, fd, hm, F⟩ := a.a_law_drawn_store.ex
  exact ⟨f, fd, F.ok sc_law_drawn_store (fun _ _ _ _ h => h.1) fun cdv A outer s H vs Q E hr h => ⟨_, PSs.nox (der_law_drawn_store T c_law_drawn_cells c_law_one_of hr), h.2⟩, hm, F.kp, ⟨_, _, F⟩, F.bindsN fun _ _ _ _ _ _ us hl => match us, hl with | [_, _, _], _ => rfl⟩
theorem ca_law_arrows {P : Program} {w : World} {K : PySem.W.Frag} {mg : Str → Option Value} {base : Heap} {cS cP : Addr} (T : Txt K mg cS cP) (a : Ats K mg cS cP) : Cal P w K mg base 1 "_law_arrows" ["_law_cells"] (p_law_arrows K cS cP) := by
  obtain ⟨f, fd, hm, F⟩ := a.a_law_arrows.ex
  exact ⟨f, fd, F.ok sc_law_arrows (fun _ _ _ _ h => h.1) fun cdv A outer s H vs Q E hr h => ⟨_, PSs.nox (der_law_arrows T hr), h.2⟩, hm, F.kp, ⟨_, _, F⟩, F.bindsN fun _ _ _ _ _ _ us hl => match us, hl with | [_], _ => rfl⟩
theorem ca_law_gone_along {P : Program} {w : World} {K : PySem.W.Frag} {mg : Str → Option Value} {base : Heap} {cS cP : Addr} (T : Txt K mg cS cP) (a : Ats K mg cS cP) : Cal P w K mg base 1 "_law_gone_along" ["_law_arrows_here", "_law_place"] (p_law_gone_along K cS cP) := by
  obtain ⟨f, fd, hm, F⟩ := a.a_law_gone_along.ex
  exact ⟨f, fd, F.ok sc_law_gone_along (fun _ _ _ _ h => h.1) fun cdv A outer s H vs Q E hr h => ⟨_, PSs.nox (der_law_gone_along T hr), h.2⟩, hm, F.kp, ⟨_, _, F⟩, F.bindsN fun _ _ _ _ _ _ us hl => match us, hl with | [_, _], _ => rfl⟩
theorem ca_law_knots {P : Program} {w : World} {K : PySem.W.Frag} {mg : Str → Option Value} {base : Heap} {cS cP : Addr} (T : Txt K mg cS cP) (a : Ats K mg cS cP) (c_law_gone_along : Cal P w K mg base 1 "_law_gone_along" ["_law_arrows_here", "_law_place"] (p_law_gone_along K cS cP)) : Cal P w K mg base 2 "_law_knots" ["_law_names", "_law_arrows_here"] (p_law_knots K cS cP) := by
  obtain ⟨f, fd, hm, F⟩ := a.a_law_knots.ex
  exact ⟨f, fd, F.ok sc_law_knots (fun _ _ _ _ h => h.1) fun cdv A outer s H vs Q E hr h => ⟨_, PSs.nox (der_law_knots T c_law_gone_along hr), h.2⟩, hm, F.kp, ⟨_, _, F⟩, F.bindsN fun _ _ _ _ _ _ us hl => match us, hl with | [_, _], _ => rfl⟩
theorem ca_law_plan {P : Program} {w : World} {K : PySem.W.Frag} {mg : Str → Option Value} {base : Heap} {cS cP : Addr} (T : Txt K mg cS cP) (a : Ats K mg cS cP) (c_law_arrows : Cal P w K mg base 1 "_law_arrows" ["_law_cells"] (p_law_arrows K cS cP)) (c_law_knots : Cal P w K mg base 2 "_law_knots" ["_law_names", "_law_arrows_here"] (p_law_knots K cS cP)) : Cal P w K mg base 3 "_law_plan" ["_law_names", "_law_cells"] (p_law_plan K cS cP) := by
  obtain ⟨f, fd, hm, F⟩ := a.a_law_plan.ex
  exact ⟨f, fd, F.ok sc_law_plan (fun _ _ _ _ h => h.1) fun cdv A outer s H vs Q E hr h => ⟨_, PSs.nox (der_law_plan T c_law_arrows c_law_knots hr), h.2⟩, hm, F.kp, ⟨_, _, F⟩, F.bindsN fun _ _ _ _ _ _ us hl => match us, hl with | [_, _], _ => rfl⟩
theorem ca_law_plan_text {P : Program} {w : World} {K : PySem.W.Frag} {mg : Str → Option Value} {base : Heap} {cS cP : Addr} (T : Txt K mg cS cP) (a : Ats K mg cS cP) : Cal P w K mg base 1 "_law_plan_text" ["_law_words", "_law_lengths", "_law_lost"] (p_law_plan_text K cS cP) := by
  obtain ⟨f, fd, hm, F⟩ := a.a_law_plan_text.ex
  exact ⟨f, fd, F.ok sc_law_plan_text (fun _ _ _ _ h => h.1) fun cdv A outer s H vs Q E hr h => ⟨_, PSs.nox (der_law_plan_text T hr), h.2⟩, hm, F.kp, ⟨_, _, F⟩, F.bindsN fun _ _ _ _ _ _ us hl => match us, hl with | [_, _, _], _ => rfl⟩
theorem ca_law_word {P : Program} {w : World} {K : PySem.W.Frag} {mg : Str → Option Value} {base : Heap} {cS cP : Addr} (T : Txt K mg cS cP) (a : Ats K mg cS cP) : Cal P w K mg base 1 "_law_word" ["_law_word_here"] (p_law_word K cS cP) := by
  obtain ⟨f, fd, hm, F⟩ := a.a_law_word.ex
  refine ⟨f, fd, ?_, hm, F.kp, ⟨_, _, F⟩, F.bindsN fun _ _ _ _ _ _ us hl => match us, hl with | [_], _ => rfl⟩
  obtain ⟨oc, od, dV, kV, doc, pm, an, cdv, ct, osl, rfl, lk, hcd, _, _⟩ := F.ex
  exact fn_ofT lk hcd sc_law_word (by decide +kernel) (by decide) (fun _ _ _ _ h => h.1) fun A outer s H vs Q E hr h => ⟨_, der_law_word T hr, h.2⟩
theorem ca_law_canon {P : Program} {w : World} {K : PySem.W.Frag} {mg : Str → Option Value} {base : Heap} {cS cP : Addr} (T : Txt K mg cS cP) (a : Ats K mg cS cP) (c_law_word : Cal P w K mg base 1 "_law_word" ["_law_word_here"] (p_law_word K cS cP)) : Cal P w K mg base 2 "_law_canon" ["_law_words", "_law_lengths", "_law_lost"] (p_law_canon K cS cP) := by
  obtain ⟨f, fd, hm, F⟩ := a.a_law_canon.ex
  exact ⟨f, fd, F.ok sc_law_canon (fun _ _ _ _ h => h.1) fun cdv A outer s H vs Q E hr h => ⟨_, PSs.nox (der_law_canon T c_law_word hr), h.2⟩, hm, F.kp, ⟨_, _, F⟩, F.bindsN fun _ _ _ _ _ _ us hl => match us, hl with | [_, _, _], _ => rfl⟩
theorem ca_law_right {P : Program} {w : World} {K : PySem.W.Frag} {mg : Str → Option Value} {base : Heap} {cS cP : Addr} (T : Txt K mg cS cP) (a : Ats K mg cS cP) (c_law_letters : Cal P w K mg base 3 "_law_letters" ["_law_jug_here", "_law_many"] (p_law_letters K cS cP)) (c_law_take : Cal P w K mg base 1 "_law_take" ["_law_jug_here", "_law_many"] (p_law_take K cS cP)) (c_law_drawn_store : Cal P w K mg base 4 "_law_drawn_store" ["_law_jug_here", "_law_letters_here", "_law_most"] (p_law_drawn_store K cS cP)) (c_law_one_of : Cal P w K mg base 2 "_law_one_of" ["_law_jug_here", "_law_some"] (p_law_one_of K cS cP)) (c_Store_init : CalMk P w K mg base 5 cS ["self", "names", "cells"] (p_Store_init K cS cP)) (c_law_plan : Cal P w K mg base 3 "_law_plan" ["_law_names", "_law_cells"] (p_law_plan K cS cP)) (c_stretches_of : Cal P w K mg base 3 "stretches_of" ["store"] (p_stretches_of K cS cP)) (c_knots_of : Cal P w K mg base 3 "knots_of" ["store"] (p_knots_of K cS cP)) (c_plan_of : Cal P w K mg base 5 "plan_of" ["store"] (p_plan_of K cS cP)) (c_law_plan_text : Cal P w K mg base 1 "_law_plan_text" ["_law_words", "_law_lengths", "_law_lost"] (p_law_plan_text K cS cP)) (c_Plan_text : CalPr P w K mg base 1 cP "text" (p_Plan_text K cS cP)) (c_Plan_size : CalPr P w K mg base 1 cP "size" (p_Plan_size K cS cP)) (c_law_canon : Cal P w K mg base 2 "_law_canon" ["_law_words", "_law_lengths", "_law_lost"] (p_law_canon K cS cP)) (c_tidy : Cal P w K mg base 8 "tidy" ["store"] (p_tidy K cS cP)) (c_are_alike : Cal P w K mg base 6 "are_alike" ["store", "other"] (p_are_alike K cS cP)) (c_Plan_eq : CalEq P w K mg base 1 cP (p_Plan_eq K cS cP)) (ck_are_alike : CalK P w K mg base 6 "are_alike" ["store", "other"] (p_are_alike K cS cP) ["other", "store"] true) (ck_knots_of : CalK P w K mg base 3 "knots_of" ["store"] (p_knots_of K cS cP) ["store"] false) (ck_plan_of : CalK P w K mg base 5 "plan_of" ["store"] (p_plan_of K cS cP) ["store"] false) (ck_stretches_of : CalK P w K mg base 3 "stretches_of" ["store"] (p_stretches_of K cS cP) ["store"] false) (ck_tidy : CalK P w K mg base 8 "tidy" ["store"] (p_tidy K cS cP) ["store"] false) : CalG P w K mg base 9 "_law_right" ["_law_jug_here"] (p_law_right K cS cP) := by
  obtain ⟨f, fd, hm, F⟩ := a.a_law_right.ex
  exact ⟨f, fd, okG F sc_law_right (fun _ _ _ _ h => h.1) fun cdv A outer s H vs Q E hg hr h => ⟨_, PSs.nox (der_law_right T c_law_letters c_law_take c_law_drawn_store c_law_one_of c_Store_init c_law_plan c_stretches_of c_knots_of c_plan_of c_law_plan_text c_Plan_text c_Plan_size c_law_canon c_tidy c_are_alike c_Plan_eq ck_are_alike ck_knots_of ck_plan_of ck_stretches_of ck_tidy hg hr), h.2⟩, hm, F.kp, F.bindsN fun _ _ _ _ _ _ us hl => match us, hl with | [_], _ => rfl⟩
theorem ca_law {P : Program} {w : World} {K : PySem.W.Frag} {mg : Str → Option Value} {base : Heap} {cS cP : Addr} (T : Txt K mg cS cP) (a : Ats K mg cS cP) (c_law_right : CalG P w K mg base 9 "_law_right" ["_law_jug_here"] (p_law_right K cS cP)) (c_law_jug : Cal P w K mg base 1 "_law_jug" ["_law_script", "_law_turn"] (p_law_jug K cS cP)) {f : Addr} {fd : FuncData} (F : FunD K "law" "law" (defArgs s_law) (defBody s_law) (defScope s_law) [] [] f fd) : FnOkG P w K mg base 10 f fd ["_law_script"] (p_law K cS cP) := okG F sc_law (fun _ _ _ _ h => h.1) fun cdv A outer s H vs Q E hg hr h => ⟨_, PSs.nox (der_law T c_law_right c_law_jug hg hr), h.2⟩
theorem all_ok {P : Program} {w : World} {K : PySem.W.Frag} {mg : Str → Option Value} {base : Heap} {cS cP : Addr} {f : Addr} {fd : FuncData} (T : Txt K mg cS cP) (a : Ats K mg cS cP) (F : FunD K "law" "law" (defArgs s_law) (defBody s_law) (defScope s_law) [] [] f fd) : FnOkG P w K mg base 10 f fd ["_law_script"] (p_law K cS cP) := by
  have c_knot_order := ca_knot_order (P := P) (w := w) (base := base) T a
  have c_shape_of_knots := ca_shape_of_knots (P := P) (w := w) (base := base) T a
  have c_knots_in := ca_knots_in (P := P) (w := w) (base := base) T a
  have c_is_whole := ca_is_whole (P := P) (w := w) (base := base) T a
  have c_is_between := ca_is_between (P := P) (w := w) (base := base) T a c_is_whole
  have c_is_place := ca_is_place (P := P) (w := w) (base := base) T a c_is_between
  have c_is_letter := ca_is_letter (P := P) (w := w) (base := base) T a
  have c_is_pair := ca_is_pair (P := P) (w := w) (base := base) T a
  have c_are_knots_right := ca_are_knots_right (P := P) (w := w) (base := base) T a
  have c_has_needless_knot := ca_has_needless_knot (P := P) (w := w) (base := base) T a
  have c_shape_knots := ca_shape_knots (P := P) (w := w) (base := base) T a c_knots_in c_are_knots_right c_has_needless_knot c_knot_order c_shape_of_knots
  have c_are_name_pairs := ca_are_name_pairs (P := P) (w := w) (base := base) T a c_is_pair c_is_letter c_is_place
  have c_check_cells := ca_check_cells (P := P) (w := w) (base := base) T a c_is_pair c_is_place
  have c_Store_init := ca_Store_init (P := P) (w := w) (base := base) T a c_are_name_pairs c_check_cells
  have c_check_store := ca_check_store (P := P) (w := w) (base := base) T a
  have c_reached_cells := ca_reached_cells (P := P) (w := w) (base := base) T a
  have c_Plan_init := ca_Plan_init (P := P) (w := w) (base := base) T a c_shape_knots c_is_between
  have c_Plan_eq := ca_Plan_eq (P := P) (w := w) (base := base) T a
  have c_Plan_size := ca_Plan_size (P := P) (w := w) (base := base) T a
  have c_Plan_text := ca_Plan_text (P := P) (w := w) (base := base) T a
  have c_check_plan := ca_check_plan (P := P) (w := w) (base := base) T a
  have c_knot_places := ca_knot_places (P := P) (w := w) (base := base) T a
  have c_ordered_knots := ca_ordered_knots (P := P) (w := w) (base := base) T a
  have c_stretch_from := ca_stretch_from (P := P) (w := w) (base := base) T a
  have c_parts_of := ca_parts_of (P := P) (w := w) (base := base) T a c_knot_places c_reached_cells c_ordered_knots c_stretch_from
  have c_knots_of := ca_knots_of (P := P) (w := w) (base := base) T a c_check_store c_parts_of
  have ck_knots_of := ck_knots_of (P := P) (w := w) (base := base) a c_knots_of
  have c_stretches_of := ca_stretches_of (P := P) (w := w) (base := base) T a c_check_store c_parts_of
  have ck_stretches_of := ck_stretches_of (P := P) (w := w) (base := base) a c_stretches_of
  have c_plan_of := ca_plan_of (P := P) (w := w) (base := base) T a c_check_store c_parts_of c_Plan_init c_shape_of_knots
  have ck_plan_of := ck_plan_of (P := P) (w := w) (base := base) a c_plan_of
  have c_cells_along := ca_cells_along (P := P) (w := w) (base := base) T a
  have c_names_at := ca_names_at (P := P) (w := w) (base := base) T a
  have c_store_of := ca_store_of (P := P) (w := w) (base := base) T a c_check_plan c_Plan_size c_knots_in c_Store_init c_cells_along c_names_at
  have c_are_alike := ca_are_alike (P := P) (w := w) (base := base) T a c_check_store c_plan_of c_Plan_eq
  have ck_are_alike := ck_are_alike (P := P) (w := w) (base := base) a c_are_alike
  have c_tidy := ca_tidy (P := P) (w := w) (base := base) T a c_store_of c_plan_of
  have ck_tidy := ck_tidy (P := P) (w := w) (base := base) a c_tidy
  have c_law_jug := ca_law_jug (P := P) (w := w) (base := base) T a
  have c_law_take := ca_law_take (P := P) (w := w) (base := base) T a
  have c_law_one_of := ca_law_one_of (P := P) (w := w) (base := base) T a c_law_take
  have c_law_letters := ca_law_letters (P := P) (w := w) (base := base) T a c_law_one_of c_law_take
  have c_law_drawn_cells := ca_law_drawn_cells (P := P) (w := w) (base := base) T a c_law_take c_law_one_of
  have c_law_drawn_store := ca_law_drawn_store (P := P) (w := w) (base := base) T a c_law_drawn_cells c_law_one_of
  have c_law_arrows := ca_law_arrows (P := P) (w := w) (base := base) T a
  have c_law_gone_along := ca_law_gone_along (P := P) (w := w) (base := base) T a
  have c_law_knots := ca_law_knots (P := P) (w := w) (base := base) T a c_law_gone_along
  have c_law_plan := ca_law_plan (P := P) (w := w) (base := base) T a c_law_arrows c_law_knots
  have c_law_plan_text := ca_law_plan_text (P := P) (w := w) (base := base) T a
  have c_law_word := ca_law_word (P := P) (w := w) (base := base) T a
  have c_law_canon := ca_law_canon (P := P) (w := w) (base := base) T a c_law_word
  have c_law_right := ca_law_right (P := P) (w := w) (base := base) T a c_law_letters c_law_take c_law_drawn_store c_law_one_of c_Store_init c_law_plan c_stretches_of c_knots_of c_plan_of c_law_plan_text c_Plan_text c_Plan_size c_law_canon c_tidy c_are_alike c_Plan_eq ck_are_alike ck_knots_of ck_plan_of ck_stretches_of ck_tidy
  exact ca_law T a c_law_right c_law_jug F
end K07
end

section -- D2
set_option Elab.async false
set_option linter.all false
set_option maxRecDepth 100000
set_option maxHeartbeats 4000000
namespace K07
open PySem PySem.Spec PyProof.Rows L2
section
variable {K : PySem.W.Frag} {h : Heap} {mg : Str → Option Value}
theorem fact (c : obsX K = valX) (i : Nat) {f : He.Fa} (e : faX[i]? = some f := by rfl) : f.ok K = true :=
  List.all_eq_true.mp (He.ba (show (faX.all (fun f => f.ok K) && (fxX.all (fun f => f K) && fnX.all fun d => plB d.qual (d.adr K) K)) = true from congrArg Prod.fst c)).1 f (List.mem_of_getElem? e)
theorem own (c : obsX K = valX) (i : Nat) {f : PySem.W.Frag → Bool} (e : fxX[i]? = some f := by rfl) : f K = true :=
  List.all_eq_true.mp (He.ba (He.ba (show (faX.all (fun f => f.ok K) && (fxX.all (fun f => f K) && fnX.all fun d => plB d.qual (d.adr K) K)) = true from congrArg Prod.fst c)).2).1 f (List.mem_of_getElem? e)
theorem def_ (c : obsX K = valX) (i : Nat) {d : DX} (e : fnX[i]? = some d := by rfl) : ∃ fd, FunD K d.name d.qual (defArgs d.st) (defBody d.st) (defScope d.st) [] [] (d.adr K) fd := by
  have c1 := List.all_eq_true.mp (He.ba (He.ba (show (faX.all (fun f => f.ok K) && (fxX.all (fun f => f K) && fnX.all fun d => plB d.qual (d.adr K) K)) = true from congrArg Prod.fst c)).2).2 d (List.mem_of_getElem? e)
  have e1 : fnX.map (fun d => fAt K (d.adr K)) = fnX.map DX.val := congrArg Prod.snd c
  have e2 : (fnX.map fun d => fAt K (d.adr K))[i]? = (fnX.map DX.val)[i]? := by rw [e1]
  rw [List.getElem?_map, List.getElem?_map, e] at e2
  exact funD_at (Option.some.inj e2) c1
theorem txt_of (X : K.In h) (G : h.Ns mainGlobals mg) (c : obsX K = valX) : Txt K mg (He.ga K "Store") (He.ga K "Plan") := ⟨He.free_ok X G (fact c 0),
  He.free_ok X G (fact c 1),
  He.free_ok X G (fact c 2),
  He.free_ok X G (fact c 3),
  He.free_ok X G (fact c 4),
  He.free_ok X G (fact c 5),
  He.free_ok X G (fact c 6),
  He.free_ok X G (fact c 7),
  He.free_ok X G (fact c 8),
  He.free_ok X G (fact c 9),
  He.free_ok X G (fact c 10),
  He.free_ok X G (fact c 11),
  He.free_ok X G (fact c 12),
  He.free_ok X G (fact c 13),
  He.free_ok X G (fact c 14),
  He.free_ok X G (fact c 15),
  He.free_ok X G (fact c 16),
  He.free_ok X G (fact c 17),
  He.free_ok X G (fact c 18),
  He.free_ok X G (fact c 19),
  He.int_ok X G (fact c 20),
  He.int_ok X G (fact c 21),
  He.int_ok X G (fact c 22),
  He.int_ok X G (fact c 23),
  He.int_ok X G (fact c 24),
  He.str_ok X G (fact c 25),
  He.glo_ok X G (fact c 26),
  He.glo_ok X G (fact c 27),
  ins_ok (He.cls_ok (fact c 28)) (own c 0),
  ins_ok (He.cls_ok (fact c 29)) (own c 1),
  He.cls_ok (fact c 28),
  He.cls_ok (fact c 29),
  He.noat_ok (fact c 30),
  He.noat_ok (fact c 31),
  He.noat_ok (fact c 32),
  He.noat_ok (fact c 33),
  He.noat_ok (fact c 34),
  He.noat_ok (fact c 35),
  He.noat_ok (fact c 36),
  He.noat_ok (fact c 37),
  He.noat_ok (fact c 38)⟩
theorem ats_of (X : K.In h) (G : h.Ns mainGlobals mg) (c : obsX K = valX) : Ats K mg (He.ga K "Store") (He.ga K "Plan") := ⟨let ⟨fd, F⟩ := def_ c 0 (d := d_knot_order); ⟨⟨_, fd, He.glo_ok X G (fact c 39), F⟩⟩,
  let ⟨fd, F⟩ := def_ c 1 (d := d_shape_of_knots); ⟨⟨_, fd, He.glo_ok X G (fact c 40), F⟩⟩,
  let ⟨fd, F⟩ := def_ c 2 (d := d_knots_in); ⟨⟨_, fd, He.glo_ok X G (fact c 41), F⟩⟩,
  let ⟨fd, F⟩ := def_ c 3 (d := d_is_whole); ⟨⟨_, fd, He.glo_ok X G (fact c 42), F⟩⟩,
  let ⟨fd, F⟩ := def_ c 4 (d := d_is_between); ⟨⟨_, fd, He.glo_ok X G (fact c 43), F⟩⟩,
  let ⟨fd, F⟩ := def_ c 5 (d := d_is_place); ⟨⟨_, fd, He.glo_ok X G (fact c 44), F⟩⟩,
  let ⟨fd, F⟩ := def_ c 6 (d := d_is_letter); ⟨⟨_, fd, He.glo_ok X G (fact c 45), F⟩⟩,
  let ⟨fd, F⟩ := def_ c 7 (d := d_is_pair); ⟨⟨_, fd, He.glo_ok X G (fact c 46), F⟩⟩,
  let ⟨fd, F⟩ := def_ c 8 (d := d_are_knots_right); ⟨⟨_, fd, He.glo_ok X G (fact c 47), F⟩⟩,
  let ⟨fd, F⟩ := def_ c 9 (d := d_has_needless_knot); ⟨⟨_, fd, He.glo_ok X G (fact c 48), F⟩⟩,
  let ⟨fd, F⟩ := def_ c 10 (d := d_shape_knots); ⟨⟨_, fd, He.glo_ok X G (fact c 49), F⟩⟩,
  let ⟨fd, F⟩ := def_ c 11 (d := d_are_name_pairs); ⟨⟨_, fd, He.glo_ok X G (fact c 50), F⟩⟩,
  let ⟨fd, F⟩ := def_ c 12 (d := d_check_cells); ⟨⟨_, fd, He.glo_ok X G (fact c 51), F⟩⟩,
  let ⟨fd, F⟩ := def_ c 13 (d := d_Store_init); ⟨⟨_, fd, He.mkr_ok (fact c 52), F⟩⟩,
  let ⟨fd, F⟩ := def_ c 14 (d := d_check_store); ⟨⟨_, fd, He.glo_ok X G (fact c 53), F⟩⟩,
  let ⟨fd, F⟩ := def_ c 15 (d := d_reached_cells); ⟨⟨_, fd, He.glo_ok X G (fact c 54), F⟩⟩,
  let ⟨fd, F⟩ := def_ c 16 (d := d_Plan_init); ⟨⟨_, fd, He.mkr_ok (fact c 55), F⟩⟩,
  let ⟨fd, F⟩ := def_ c 17 (d := d_Plan_eq); ⟨⟨_, fd, (He.meth_ok (fact c 56)).at_, (He.meth_ok (fact c 56)).fn, F⟩⟩,
  let ⟨fd, F⟩ := def_ c 18 (d := d_Plan_size); ⟨⟨_, _, fd, prop_ok (own c 2), F⟩⟩,
  let ⟨fd, F⟩ := def_ c 19 (d := d_Plan_text); ⟨⟨_, _, fd, prop_ok (own c 3), F⟩⟩,
  let ⟨fd, F⟩ := def_ c 20 (d := d_check_plan); ⟨⟨_, fd, He.glo_ok X G (fact c 57), F⟩⟩,
  let ⟨fd, F⟩ := def_ c 21 (d := d_knot_places); ⟨⟨_, fd, He.glo_ok X G (fact c 58), F⟩⟩,
  let ⟨fd, F⟩ := def_ c 22 (d := d_ordered_knots); ⟨⟨_, fd, He.glo_ok X G (fact c 59), F⟩⟩,
  let ⟨fd, F⟩ := def_ c 23 (d := d_stretch_from); ⟨⟨_, fd, He.glo_ok X G (fact c 60), F⟩⟩,
  let ⟨fd, F⟩ := def_ c 24 (d := d_parts_of); ⟨⟨_, fd, He.glo_ok X G (fact c 61), F⟩⟩,
  let ⟨fd, F⟩ := def_ c 25 (d := d_knots_of); ⟨⟨_, fd, He.glo_ok X G (fact c 62), F⟩⟩,
  let ⟨fd, F⟩ := def_ c 26 (d := d_stretches_of); ⟨⟨_, fd, He.glo_ok X G (fact c 63), F⟩⟩,
  let ⟨fd, F⟩ := def_ c 27 (d := d_plan_of); ⟨⟨_, fd, He.glo_ok X G (fact c 64), F⟩⟩,
  let ⟨fd, F⟩ := def_ c 28 (d := d_cells_along); ⟨⟨_, fd, He.glo_ok X G (fact c 65), F⟩⟩,
  let ⟨fd, F⟩ := def_ c 29 (d := d_names_at); ⟨⟨_, fd, He.glo_ok X G (fact c 66), F⟩⟩,
  let ⟨fd, F⟩ := def_ c 30 (d := d_store_of); ⟨⟨_, fd, He.glo_ok X G (fact c 67), F⟩⟩,
  let ⟨fd, F⟩ := def_ c 31 (d := d_are_alike); ⟨⟨_, fd, He.glo_ok X G (fact c 68), F⟩⟩,
  let ⟨fd, F⟩ := def_ c 32 (d := d_tidy); ⟨⟨_, fd, He.glo_ok X G (fact c 69), F⟩⟩,
  let ⟨fd, F⟩ := def_ c 33 (d := d_law_jug); ⟨⟨_, fd, He.glo_ok X G (fact c 70), F⟩⟩,
  let ⟨fd, F⟩ := def_ c 34 (d := d_law_take); ⟨⟨_, fd, He.glo_ok X G (fact c 71), F⟩⟩,
  let ⟨fd, F⟩ := def_ c 35 (d := d_law_one_of); ⟨⟨_, fd, He.glo_ok X G (fact c 72), F⟩⟩,
  let ⟨fd, F⟩ := def_ c 36 (d := d_law_letters); ⟨⟨_, fd, He.glo_ok X G (fact c 73), F⟩⟩,
  let ⟨fd, F⟩ := def_ c 37 (d := d_law_drawn_cells); ⟨⟨_, fd, He.glo_ok X G (fact c 74), F⟩⟩,
  let ⟨fd, F⟩ := def_ c 38 (d := d_law_drawn_store); ⟨⟨_, fd, He.glo_ok X G (fact c 75), F⟩⟩,
  let ⟨fd, F⟩ := def_ c 39 (d := d_law_arrows); ⟨⟨_, fd, He.glo_ok X G (fact c 76), F⟩⟩,
  let ⟨fd, F⟩ := def_ c 40 (d := d_law_gone_along); ⟨⟨_, fd, He.glo_ok X G (fact c 77), F⟩⟩,
  let ⟨fd, F⟩ := def_ c 41 (d := d_law_knots); ⟨⟨_, fd, He.glo_ok X G (fact c 78), F⟩⟩,
  let ⟨fd, F⟩ := def_ c 42 (d := d_law_plan); ⟨⟨_, fd, He.glo_ok X G (fact c 79), F⟩⟩,
  let ⟨fd, F⟩ := def_ c 43 (d := d_law_plan_text); ⟨⟨_, fd, He.glo_ok X G (fact c 80), F⟩⟩,
  let ⟨fd, F⟩ := def_ c 44 (d := d_law_word); ⟨⟨_, fd, He.glo_ok X G (fact c 81), F⟩⟩,
  let ⟨fd, F⟩ := def_ c 45 (d := d_law_canon); ⟨⟨_, fd, He.glo_ok X G (fact c 82), F⟩⟩,
  let ⟨fd, F⟩ := def_ c 46 (d := d_law_right); ⟨⟨_, fd, He.glo_ok X G (fact c 83), F⟩⟩,
  let ⟨fd, F⟩ := def_ c 47 (d := d_law); ⟨⟨_, fd, He.glo_ok X G (fact c 84), F⟩⟩⟩
end
end K07
end

section -- D4
set_option Elab.async false
set_option linter.all false
set_option maxRecDepth 100000
set_option maxHeartbeats 4000000
namespace K07
open PySem PySem.Spec PyProof.Rows L2
/-- the law's call, the guards known: its promise at the heap behind the top -/
theorem law_callG {P : Program} {w : World} {K : PySem.W.Frag} {mg mb : Str → Option Value} {k : Nat} {fa a : Addr} {fd : FuncData} {x : Str} {sp : Sp} {s1 : Shared} {vs : List Value} {ns : List Int}
    (KX : K.In s1.heap) (hns : s1.heap.Ns mainGlobals mg) (hb : s1.heap.Ns builtinsNs mb) (hbb : ∀ x : Str, x ≠ "__name__" → mb x = bootBuiltins x) (hlim : s1.heap.NoLimit) (hg : s1.gens = #[])
    (ha : s1.heap.get? a = some { cls := .type "list", data := .seq vs.toArray }) (hi : IntsAre vs ns) (hl : ns.length ≤ sizeLine) (hr : Room k callerA)
    (F : ∀ base : Heap, K.In base → base.Ns mainGlobals mg → FnOkG P w K mg base k fa fd [x] sp) (hbind : ∀ (s : Shared) (u : Value), BindsTo s fd ⟨[u], []⟩ [(x, u)])
    (hsp : ∀ H : Hp, Only H → SqL K H a (ns.map V.int) → sp [.ref a] H (fun v _ => v = .bl true) E0) :
    codeAny (model P w) callerA (.call (.ref fa) ⟨[.ref a], []⟩) (fun r s' => r = .ok (.ret (.bool true)) ∧ OldK s1.heap s'.heap ∧ s'.os = s1.os ∧ AllBare s'.gens) s1 := by
  -- H tracks the script, or nothing
  have from_ : ∀ H : Hp, Only H → SqL K H a (ns.map V.int) → HOk P w H s1.heap → (∀ b, H b ≠ none → b = a ∧ K.lookup a = none) →
      codeAny (model P w) callerA (.call (.ref fa) ⟨[.ref a], []⟩) (fun r s' => r = .ok (.ret (.bool true)) ∧ OldK s1.heap s'.heap ∧ s'.os = s1.os ∧ AllBare s'.gens) s1 := fun H only seq hok track => by
    have free : ∀ b, (b = a → K.lookup a ≠ none) → H b = none := fun b hb => Classical.byContradiction fun z => (hb (track b z).1) (track b z).2
    have dictfree : ∀ {b : Addr} {o : Obj} {es : Array DictEntry} {n : Nat}, s1.heap.get? b = some o → o.data = .dict es n → H b = none := fun {b o es n} e d =>
      Classical.byContradiction fun z => by
        rw [(track b z).1, ha] at e
        cases e
        cases d
    have inB : ∀ {b : Addr} {o : Obj}, s1.heap.get? b = some o → H b = none → (hidT s1.heap H).get? b = some o := fun e n => hidT_get e n
    have nsB : ∀ {b : Addr} {m : Str → Option Value}, s1.heap.Ns b m → (hidT s1.heap H).Ns b m := fun ⟨o, es, n, e, d, r⟩ => ⟨o, es, n, inB e (dictfree e d), d, r⟩
    have KB : K.In (hidT s1.heap H) := fun b o e => inB (KX b o e) (free b fun z y => by rw [← z, e] at y; cases y)
    obtain ⟨mc, l1, l2⟩ := hlim
    have M : Mod K mg (hidT s1.heap H) := ⟨KB, nsB hns, ⟨mb, nsB hb, hbb⟩, mc, nsB l1, l2⟩
    have env : Env0 P w K mg (hidT s1.heap H) callerA [] s1 H := ⟨rfl, M, fun b o e => of_hidT e, Nat.le_of_eq (hidT_size _ _), trivial, fun b hb => absurd (show b ∈ ([] : List Addr) from hb) List.not_mem_nil, hok, .of_eq hg⟩
    refine codeAny_mono ((F _ KB (nsB hns)).go callerA [] s1 H ⟨[.ref a], []⟩ [.ref a] [.ref a] _ E0 rfl hr env (hbind s1 (.ref a)) (.cons rfl .nil) (hsp H only seq)) fun r s' out => ?_
    cases r with
    | error e => exact False.elim out
    | ok fl => cases fl with
      | next => exact False.elim out
      | brk => exact False.elim out
      | cont => exact False.elim out
      | ret u =>
        obtain ⟨v, H', os, bare, un, hok', rv, q⟩ := out
        cases (show v = .bl true from q)
        cases (show u = Value.bool true from rv)
        refine ⟨rfl, OldK.of_keep fun b o e => ?_, os, bare⟩
        cases hb : H b with
        | none => exact un.keep b o e hb (fun z => absurd (show b ∈ ([] : List Addr) from z) List.not_mem_nil) (by simp)
        | some u =>
          rcases only b with z | ⟨ob, xs, z⟩
          · rw [hb] at z; cases z
          · rw [(hok b _ z).1] at e
            cases e
            exact (hok' b _ (un.frzs b _ _ z)).1
  have rel := vals_ints hi
  have len := hi.length
  cases look : K.lookup a with
  | some o =>
    have e := ha.symm.trans (KX a o look)
    cases e
    exact from_ (fun _ => none) (fun _ => .inl rfl) (.inr ⟨_, vs.toArray, _, look, rfl, rfl, rfl, by rw [List.size_toArray, len]; exact hl, by simpa using rel⟩) (fun b u z => by cases (show (none : Option HO) = some u from z)) (fun b z => absurd rfl z)
  | none =>
    refine from_ (upd (fun _ => none) a (.frz { cls := .type "list", data := .seq vs.toArray } (.lst (ns.map V.int)))) (fun b => ?_) (.inl (.inr ⟨_, upd_same⟩)) (fun b u z => ?_) (fun b z => ?_)
    · by_cases hb : b = a
      · subst hb; exact .inr ⟨_, _, upd_same⟩
      · exact .inl (upd_ne hb)
    · by_cases hb : b = a
      · subst hb
        cases upd_same.symm.trans z
        exact ⟨ha, by rw [List.length_map]; exact hl, vs, _, rel, ha⟩
      · cases (upd_ne hb).symm.trans z
    · exact ⟨Classical.byContradiction fun hb => z (upd_ne hb), look⟩
theorem walk_G {l : PySem.W.OpenLaw} {n k : Nat} {q : Program} {loose : List Str} {XP : (Str → Option Value) → Heap → Prop} {YP : World → Heap → Prop} {d : DefRec} {x : Str}
    (hn : l.most = some n) (hn2 : n ≤ sizeLine) (hdf : d.params.defaults = []) (hr : Room k callerA)
    (F : ∀ (w : World) (mg : Str → Option Value) (fa : Addr) (h : Heap), YP w h → h.Ns mainGlobals mg → mg d.name = some (.ref fa) →
      ∃ (K : PySem.W.Frag) (fd : FuncData) (sp : Sp), K.In h ∧ (∀ (s : Shared) (u : Value), BindsTo s fd ⟨[u], []⟩ [(x, u)]) ∧
        (∀ (H : Hp) (a : Addr) (ns : List Int), ns.length ≤ n → Only H → SqL K H a (ns.map V.int) → sp [.ref a] H (fun v _ => v = .bl true) E0) ∧
        ∀ base : Heap, K.In base → base.Ns mainGlobals mg → FnOkG l.prog w K mg base k fa fd [x] sp) :
    PySem.W.WalkO q loose XP YP l.row.toRowW d [] (fun f vs => PySem.call f vs) :=
  Att.attach_call hn hdf fun w _ s1 mg mb fa _ _ _ _ a vs ns G Y _ _ _ hmg hobj hints hlen hgen => by
    obtain ⟨K, fd, sp, KX, bind, prom, ok⟩ := F w mg fa _ Y G.T.g hmg
    exact law_callG KX G.T.g G.T.b G.T.builtins G.T.nolimit hgen hobj hints (Nat.le_trans hlen hn2) hr ok bind fun H only seq => prom H a ns hlen only seq
end K07
end

section -- D5
set_option Elab.async false
set_option linter.all false
set_option maxRecDepth 100000
set_option maxHeartbeats 0
namespace K07
open PySem PySem.Spec PyProof.Rows L2
/-- from the head's facts: the law's def keeps its promise, and its promise gives True -/
theorem law_facts {P : Program} {w : World} {K : PySem.W.Frag} {h : Heap} {mg : Str → Option Value} {f : Addr} (X : K.In h) (G : h.Ns mainGlobals mg) (hfa : mg ("law" : Str) = some (.ref f)) (c : obsX K = valX) :
    ∃ fd : FuncData, (∀ (s : Shared) (v : Value), BindsTo s fd ⟨[v], []⟩ [("_law_script", v)]) ∧
      (∀ (H : Hp) (a : Addr) (ns : List Int), ns.length ≤ 63 → Only H → SqL K H a (ns.map V.int) → p_law K (He.ga K "Store") (He.ga K "Plan") [.ref a] H (fun v _ => v = .bl true) E0) ∧
      ∀ base : Heap, K.In base → base.Ns mainGlobals mg → FnOkG P w K mg base 10 f fd ["_law_script"] (p_law K (He.ga K "Store") (He.ga K "Plan")) := by
  have T := txt_of X G c
  have A := ats_of X G c
  obtain ⟨f2, fd, hm, F⟩ := A.a_law.ex
  cases Value.ref.inj (Option.some.inj (hfa.symm.trans hm))
  exact ⟨fd, fun s v => FunD.bindsA (ps := ["_law_script"]) F (fun _ _ _ _ _ _ us hl => match us, hl with | [_], _ => rfl) s [v] rfl,
    fun H a ns hl _ seq => Z.pu_law T hl [.ref a] ⟨H, H, fun _ _ e => e⟩ ⟨⟨a, _, rfl, seq, Z.allR_ints.mpr rfl⟩, trivial⟩ _ fun v w' _ hv => hv,
    fun base _ _ => all_ok T A F⟩
end K07
open PySem PySem.W PySem.Calls PyProof.Rows
theorem PySem.Challenge.cw_arrowcells_k07_whole_plans_of_stores_holds : PySem.Challenge.rw_arrowcells_k07_whole_plans_of_stores.Holds := by
  w_on; o_law
  refine HandSHeadRun.head_any (r := OpenLaw.row PySem.Challenge.rw_arrowcells_k07_whole_plans_of_stores) (q := view (OpenLaw.row PySem.Challenge.rw_arrowcells_k07_whole_plans_of_stores).prog [70]) (H := K07.hkX) (ob := K07.obX) (M := 8000) (loose := K07.names) (d := HandSHeadRun.topDef (OpenLaw.row PySem.Challenge.rw_arrowcells_k07_whole_plans_of_stores).prog 70) (kwd := []) K07.obX_eq
    (by kernel_rfl) (fun s => by kernel_rfl) K07.run (by kernel_rfl) (by kernel_rfl) (by kernel_rfl) (by rfl) (by first | assumption | decide +kernel) (by decide +kernel) ⟨rfl, rfl, rfl, rfl, rfl, by decide +kernel⟩ ?hw ?hc
  case hw => w_witness2
  case hc =>
    refine K07.walk_G (l := PySem.Challenge.rw_arrowcells_k07_whole_plans_of_stores) (n := 63) (k := 10) (x := "_law_script") rfl (by decide) (by kernel_rfl) ⟨rfl, by decide, by decide⟩ ?F
    intro w mg fa h Y G hmg0
    obtain ⟨K, KX, c⟩ := Y
    have hmg : mg ("law" : PySem.Str) = some (.ref fa) := by
      have e : (HandSHeadRun.topDef (OpenLaw.row PySem.Challenge.rw_arrowcells_k07_whole_plans_of_stores).prog 70).name = ("law" : PySem.Str) := by kernel_rfl
      rw [← e]
      exact hmg0
    obtain ⟨fd, hb, hp, hF⟩ := K07.law_facts (P := (PySem.Challenge.rw_arrowcells_k07_whole_plans_of_stores).prog) (w := w) KX G hmg c
    exact ⟨K, fd, K07.p_law K (He.ga K "Store") (He.ga K "Plan"), KX, hb, hp, hF⟩
end
