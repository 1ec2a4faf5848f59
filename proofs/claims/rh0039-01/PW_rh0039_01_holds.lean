import PyProof.Rows.All
import Wide.All
import OpenK.AllK
import Wide.FinOn
import Lean
import PySem.Challenge.RW_rh0039_01
set_option maxRecDepth 100000
set_option maxHeartbeats 0
set_option linter.all false
set_option Elab.async false
set_option autoImplicit false
open PySem PySem.Calls PyProof.Rows PySem.W
namespace Mine
abbrev Keep (h h' : Heap) : Prop := ∀ b o, h.get? b = some o → h'.get? b = some o
abbrev G (X : List Addr) (h : Heap) : Heap := hideAll h X
def stm (k : Nat) : Stmt := (PySem.Challenge.pw_rh0039_01.main.body)[k]?.getD (.Pass ⟨0, 0, 0, 0⟩)
def nameS : Stmt → Str
  | .FunctionDef n _ _ _ _ _ _ _ _ _ => n
  | _ => Str.ofString ""
def argsS : Stmt → Arguments
  | .FunctionDef _ a _ _ _ _ _ _ _ _ => a
  | _ => ⟨[], [], none, [], [], none, []⟩
def bodyS : Stmt → List Stmt
  | .FunctionDef _ _ b _ _ _ _ _ _ _ => b
  | _ => []
def scopeS : Stmt → Scope
  | .FunctionDef _ _ _ _ _ _ sc _ _ _ => sc
  | _ => ⟨.module, [], false, false, []⟩

/-- the def in the class CasFail -/
def initS : Stmt := match stm 1 with
  | .ClassDef _ _ _ b _ _ _ _ _ _ _ => b[0]?.getD (.Pass ⟨0, 0, 0, 0⟩)
  | _ => .Pass ⟨0, 0, 0, 0⟩
/-- the part of the heap that is leant on -/
def Kf (p : Params) : Frag := [
  (nat_lit 3, { cls := .type "dict", data := .dict #[{ hash := PyData.keyHash p (Str.ofString "__name__"), key := .str (Str.ofString "__name__") 165, val := .str (Str.ofString "law_rh0039_01") 820 }, { hash := PyData.keyHash p (Str.ofString "__doc__"), key := .str (Str.ofString "__doc__") 166, val := .none }, { hash := PyData.keyHash p (Str.ofString "__package__"), key := .str (Str.ofString "__package__") 167, val := .none }, { hash := PyData.keyHash p (Str.ofString "__loader__"), key := .str (Str.ofString "__loader__") 168, val := .builtin "__main__.__loader__#opaque" }, { hash := PyData.keyHash p (Str.ofString "__spec__"), key := .str (Str.ofString "__spec__") 169, val := .none }, { hash := PyData.keyHash p (Str.ofString "__annotations__"), key := .str (Str.ofString "__annotations__") 170, val := .ref 6 }, { hash := PyData.keyHash p (Str.ofString "__builtins__"), key := .str (Str.ofString "__builtins__") 171, val := .ref 4 }, { hash := PyData.keyHash p (Str.ofString "__file__"), key := .str (Str.ofString "__file__") 173, val := .str (Str.ofString "/claim/cut.py") 172 }, { hash := PyData.keyHash p (Str.ofString "__cached__"), key := .str (Str.ofString "__cached__") 174, val := .none }, { hash := PyData.keyHash p (Str.ofString "CasFail"), key := .str (Str.ofString "CasFail") 219, val := .ref 31 }, { hash := PyData.keyHash p (Str.ofString "gcd"), key := .str (Str.ofString "gcd") 229, val := .ref 41 }, { hash := PyData.keyHash p (Str.ofString "bits_of"), key := .str (Str.ofString "bits_of") 239, val := .ref 48 }, { hash := PyData.keyHash p (Str.ofString "least_divisor"), key := .str (Str.ofString "least_divisor") 248, val := .ref 55 }, { hash := PyData.keyHash p (Str.ofString "prime_factors"), key := .str (Str.ofString "prime_factors") 258, val := .ref 62 }, { hash := PyData.keyHash p (Str.ofString "MOST_BITS"), key := .str (Str.ofString "MOST_BITS") 262, val := .int 200000 261 }, { hash := PyData.keyHash p (Str.ofString "rat"), key := .str (Str.ofString "rat") 271, val := .ref 69 }, { hash := PyData.keyHash p (Str.ofString "radd"), key := .str (Str.ofString "radd") 279, val := .ref 76 }, { hash := PyData.keyHash p (Str.ofString "rmul"), key := .str (Str.ofString "rmul") 287, val := .ref 83 }, { hash := PyData.keyHash p (Str.ofString "rinv"), key := .str (Str.ofString "rinv") 294, val := .ref 90 }, { hash := PyData.keyHash p (Str.ofString "rpower"), key := .str (Str.ofString "rpower") 303, val := .ref 97 }, { hash := PyData.keyHash p (Str.ofString "rfloor"), key := .str (Str.ofString "rfloor") 310, val := .ref 104 }, { hash := PyData.keyHash p (Str.ofString "T_ZERO"), key := .str (Str.ofString "T_ZERO") 316, val := .ref 105 }, { hash := PyData.keyHash p (Str.ofString "T_ONE"), key := .str (Str.ofString "T_ONE") 320, val := .ref 106 }, { hash := PyData.keyHash p (Str.ofString "MOST_NARROW"), key := .str (Str.ofString "MOST_NARROW") 322, val := .int 100 321 }, { hash := PyData.keyHash p (Str.ofString "t_num"), key := .str (Str.ofString "t_num") 331, val := .ref 113 }, { hash := PyData.keyHash p (Str.ofString "t_sym"), key := .str (Str.ofString "t_sym") 338, val := .ref 120 }, { hash := PyData.keyHash p (Str.ofString "t_sum"), key := .str (Str.ofString "t_sum") 345, val := .ref 127 }, { hash := PyData.keyHash p (Str.ofString "t_prod"), key := .str (Str.ofString "t_prod") 352, val := .ref 134 }, { hash := PyData.keyHash p (Str.ofString "t_call"), key := .str (Str.ofString "t_call") 360, val := .ref 141 }, { hash := PyData.keyHash p (Str.ofString "is_num"), key := .str (Str.ofString "is_num") 367, val := .ref 148 }, { hash := PyData.keyHash p (Str.ofString "num_of"), key := .str (Str.ofString "num_of") 374, val := .ref 155 }, { hash := PyData.keyHash p (Str.ofString "is_whole_num"), key := .str (Str.ofString "is_whole_num") 381, val := .ref 162 }, { hash := PyData.keyHash p (Str.ofString "inner_terms"), key := .str (Str.ofString "inner_terms") 389, val := .ref 169 }, { hash := PyData.keyHash p (Str.ofString "with_inner"), key := .str (Str.ofString "with_inner") 398, val := .ref 176 }, { hash := PyData.keyHash p (Str.ofString "is_too_great"), key := .str (Str.ofString "is_too_great") 404, val := .ref 181 }, { hash := PyData.keyHash p (Str.ofString "RANKS"), key := .str (Str.ofString "RANKS") 431, val := .ref 182 }, { hash := PyData.keyHash p (Str.ofString "sign_between"), key := .str (Str.ofString "sign_between") 439, val := .ref 189 }, { hash := PyData.keyHash p (Str.ofString "compare_values"), key := .str (Str.ofString "compare_values") 447, val := .ref 196 }, { hash := PyData.keyHash p (Str.ofString "bare_factors"), key := .str (Str.ofString "bare_factors") 453, val := .ref 201 }, { hash := PyData.keyHash p (Str.ofString "front_value"), key := .str (Str.ofString "front_value") 460, val := .ref 208 }, { hash := PyData.keyHash p (Str.ofString "base_and_exponent"), key := .str (Str.ofString "base_and_exponent") 467, val := .ref 215 }, { hash := PyData.keyHash p (Str.ofString "compare_rows"), key := .str (Str.ofString "compare_rows") 477, val := .ref 222 }, { hash := PyData.keyHash p (Str.ofString "compare_exponents"), key := .str (Str.ofString "compare_exponents") 485, val := .ref 229 }, { hash := PyData.keyHash p (Str.ofString "compare_bases"), key := .str (Str.ofString "compare_bases") 495, val := .ref 236 }, { hash := PyData.keyHash p (Str.ofString "compare_factors"), key := .str (Str.ofString "compare_factors") 508, val := .ref 243 }, { hash := PyData.keyHash p (Str.ofString "compare_terms"), key := .str (Str.ofString "compare_terms") 520, val := .ref 250 }, { hash := PyData.keyHash p (Str.ofString "merged_terms"), key := .str (Str.ofString "merged_terms") 532, val := .ref 257 }, { hash := PyData.keyHash p (Str.ofString "sort_terms"), key := .str (Str.ofString "sort_terms") 540, val := .ref 264 }, { hash := PyData.keyHash p (Str.ofString "ZERO"), key := .str (Str.ofString "ZERO") 546, val := .ref 265 }, { hash := PyData.keyHash p (Str.ofString "ONE"), key := .str (Str.ofString "ONE") 550, val := .ref 266 }, { hash := PyData.keyHash p (Str.ofString "MINUS_ONE"), key := .str (Str.ofString "MINUS_ONE") 555, val := .ref 267 }, { hash := PyData.keyHash p (Str.ofString "HALF"), key := .str (Str.ofString "HALF") 559, val := .ref 268 }, { hash := PyData.keyHash p (Str.ofString "EXP_ONE"), key := .str (Str.ofString "EXP_ONE") 562, val := .ref 270 }, { hash := PyData.keyHash p (Str.ofString "MOST_FACTORED"), key := .str (Str.ofString "MOST_FACTORED") 566, val := .int 1000000 565 }, { hash := PyData.keyHash p (Str.ofString "MOST_FACTORIAL"), key := .str (Str.ofString "MOST_FACTORIAL") 568, val := .int 200 567 }, { hash := PyData.keyHash p (Str.ofString "ODD_CALLS"), key := .str (Str.ofString "ODD_CALLS") 572, val := .ref 271 }, { hash := PyData.keyHash p (Str.ofString "number_term"), key := .str (Str.ofString "number_term") 579, val := .ref 278 }, { hash := PyData.keyHash p (Str.ofString "number_and_rest"), key := .str (Str.ofString "number_and_rest") 587, val := .ref 285 }, { hash := PyData.keyHash p (Str.ofString "with_number"), key := .str (Str.ofString "with_number") 595, val := .ref 292 }, { hash := PyData.keyHash p (Str.ofString "flat_parts"), key := .str (Str.ofString "flat_parts") 605, val := .ref 299 }, { hash := PyData.keyHash p (Str.ofString "gathered_sum"), key := .str (Str.ofString "gathered_sum") 611, val := .ref 304 }, { hash := PyData.keyHash p (Str.ofString "is_one_call"), key := .str (Str.ofString "is_one_call") 619, val := .ref 311 }, { hash := PyData.keyHash p (Str.ofString "as_power"), key := .str (Str.ofString "as_power") 626, val := .ref 318 }, { hash := PyData.keyHash p (Str.ofString "gathered_product"), key := .str (Str.ofString "gathered_product") 641, val := .ref 325 }, { hash := PyData.keyHash p (Str.ofString "power_of"), key := .str (Str.ofString "power_of") 647, val := .ref 330 }, { hash := PyData.keyHash p (Str.ofString "split_power"), key := .str (Str.ofString "split_power") 658, val := .ref 337 }, { hash := PyData.keyHash p (Str.ofString "number_power"), key := .str (Str.ofString "number_power") 666, val := .ref 344 }, { hash := PyData.keyHash p (Str.ofString "radical_of"), key := .str (Str.ofString "radical_of") 683, val := .ref 351 }, { hash := PyData.keyHash p (Str.ofString "begins_below"), key := .str (Str.ofString "begins_below") 691, val := .ref 358 }, { hash := PyData.keyHash p (Str.ofString "negated_term"), key := .str (Str.ofString "negated_term") 697, val := .ref 363 }, { hash := PyData.keyHash p (Str.ofString "exp_of"), key := .str (Str.ofString "exp_of") 709, val := .ref 370 }, { hash := PyData.keyHash p (Str.ofString "log_of"), key := .str (Str.ofString "log_of") 716, val := .ref 377 }, { hash := PyData.keyHash p (Str.ofString "factorial_of"), key := .str (Str.ofString "factorial_of") 725, val := .ref 384 }, { hash := PyData.keyHash p (Str.ofString "call_of"), key := .str (Str.ofString "call_of") 734, val := .ref 391 }, { hash := PyData.keyHash p (Str.ofString "simplify"), key := .str (Str.ofString "simplify") 740, val := .ref 396 }, { hash := PyData.keyHash p (Str.ofString "MOST_LEVELS"), key := .str (Str.ofString "MOST_LEVELS") 744, val := .int 120 743 }, { hash := PyData.keyHash p (Str.ofString "MOST_TERMS"), key := .str (Str.ofString "MOST_TERMS") 746, val := .int 20000 745 }, { hash := PyData.keyHash p (Str.ofString "MOST_RAW"), key := .str (Str.ofString "MOST_RAW") 748, val := .int 200000 747 }, { hash := PyData.keyHash p (Str.ofString "has_own_letter"), key := .str (Str.ofString "has_own_letter") 755, val := .ref 403 }, { hash := PyData.keyHash p (Str.ofString "has_root_letter"), key := .str (Str.ofString "has_root_letter") 762, val := .ref 410 }, { hash := PyData.keyHash p (Str.ofString "open_letters"), key := .str (Str.ofString "open_letters") 768, val := .ref 415 }, { hash := PyData.keyHash p (Str.ofString "sum_replaced"), key := .str (Str.ofString "sum_replaced") 774, val := .ref 420 }, { hash := PyData.keyHash p (Str.ofString "replaced"), key := .str (Str.ofString "replaced") 780, val := .ref 425 }, { hash := PyData.keyHash p (Str.ofString "has_ratio"), key := .str (Str.ofString "has_ratio") 786, val := .ref 430 }, { hash := PyData.keyHash p (Str.ofString "settled"), key := .str (Str.ofString "settled") 792, val := .ref 435 }, { hash := PyData.keyHash p (Str.ofString "substitute"), key := .str (Str.ofString "substitute") 801, val := .ref 442 }, { hash := PyData.keyHash p (Str.ofString "substitute_all"), key := .str (Str.ofString "substitute_all") 807, val := .ref 447 }, { hash := PyData.keyHash p (Str.ofString "behind_last"), key := .str (Str.ofString "behind_last") 819, val := .ref 454 }, { hash := PyData.keyHash p (Str.ofString "_law_take"), key := .str (Str.ofString "_law_take") 829, val := .ref 461 }, { hash := PyData.keyHash p (Str.ofString "_law_told"), key := .str (Str.ofString "_law_told") 837, val := .ref 468 }, { hash := PyData.keyHash p (Str.ofString "_law_product"), key := .str (Str.ofString "_law_product") 846, val := .ref 475 }, { hash := PyData.keyHash p (Str.ofString "law"), key := .str (Str.ofString "law") 865, val := .ref 482 }] 92 }),
  (nat_lit 27, { cls := .type "code", data := .fields #[.str (Str.ofString "__init__") 201, .str (Str.ofString "CasFail.__init__") 202, .str (Str.ofString "/claim/cut.py") 203, .int 4 0, .int 3 0, .int 0 0, .int 0 0, .int 3 0, .ref 22, .bool true, .int 181 0, .ref 23, .none, .ref 24, .ref 25, .ref 26, .int 207 0, .int 4 0, .str (Str.ofString "/claim/cut.py") 208] }),
  (nat_lit 28, { cls := .type "function", data := .func (methDef (Str.ofString "__init__") (Str.ofString "CasFail.__init__") (argsS initS) (bodyS initS) (scopeS initS) (.str (Str.ofString "cas.errors") 187) (.ref 27) .none) }),
  (nat_lit 30, { cls := .type "dict", data := .dict #[{ hash := PyData.keyHash p (Str.ofString "__module__"), key := .str (Str.ofString "__module__") 196, val := .str (Str.ofString "cas.errors") 187 }, { hash := PyData.keyHash p (Str.ofString "__firstlineno__"), key := .str (Str.ofString "__firstlineno__") 200, val := .int 2 199 }, { hash := PyData.keyHash p (Str.ofString "__init__"), key := .str (Str.ofString "__init__") 209, val := .ref 28 }, { hash := PyData.keyHash p (Str.ofString "__static_attributes__"), key := .str (Str.ofString "__static_attributes__") 212, val := .ref 29 }, { hash := PyData.keyHash p (Str.ofString "__weakref__"), key := .str (Str.ofString "__weakref__") 214, val := .ref 32 }, { hash := PyData.keyHash p (Str.ofString "__doc__"), key := .str (Str.ofString "__doc__") 215, val := .none }] 3 }),
  (nat_lit 31, excClassObj (Str.ofString "CasFail") (Str.ofString "CasFail") 31 30 [.type "Exception"] [.type "Exception", .type "BaseException", .type "object"] true [] [] false none none (some (.ref 15)) none (some (.str (Str.ofString "CasFail") 189)) (some (.str (Str.ofString "CasFail") 197)) (some (.bool true)) "Exception.__new__"),
  (nat_lit 106, { cls := .type "tuple", data := .seq #[.str (Str.ofString "num") 317, .int 1 318, .int 1 319] }),
  (nat_lit 265, { cls := .type "tuple", data := .seq #[.str (Str.ofString "num") 543, .int 0 544, .int 1 545] }),
  (nat_lit 266, { cls := .type "tuple", data := .seq #[.str (Str.ofString "num") 547, .int 1 548, .int 1 549] }),
  (nat_lit 481, { cls := .type "code", data := .fields #[.str (Str.ofString "law") 847, .str (Str.ofString "law") 848, .str (Str.ofString "/claim/cut.py") 849, .int 478 0, .int 1 0, .int 0 0, .int 0 0, .int 3 0, .ref 476, .bool true, .int 181 0, .ref 477, .none, .ref 478, .ref 479, .ref 480, .int 863 0, .int 478 0, .str (Str.ofString "/claim/cut.py") 864] }),
  (nat_lit 482, { cls := .type "function", data := .func (docDef (nameS (stm 91)) (argsS (stm 91)) (bodyS (stm 91)) (scopeS (stm 91)) (.str (Str.ofString "law_rh0039_01") 820) (.ref 481) .none) })]
inductive D where
  | none
  | bool (b : Bool)
  | int (i : Int)
  | str (x : Str)
  | tup (l : List D)
  | lst (l : List D)
  | dct (k : Str) (d : D)
  | emp
  | ems
  | rng (a b : Int)
  /-- an object of its own, by its address: what it holds is told apart -/
  | adr (a : Addr)

structure Wd where
  prog : Program
  w : World
  mg : Str → Option Value
  mb : Str → Option Value
  /-- nothing is being handled -/
  hn : Bool
  /-- objects of the text's top that stay -/
  K : Addr → Option Obj

def Chg (X : List Addr) (h h' : Heap) : Prop := ∀ b o, b ∉ X → h.get? b = some o → h'.get? b = some o

theorem Keep.rfl' {h : Heap} : Keep h h := fun _ _ e => e
theorem Keep.trans {a b c : Heap} (x : Keep a b) (y : Keep b c) : Keep a c := fun _ _ e => y _ _ (x _ _ e)
theorem Keep.chg {X : List Addr} {h h' : Heap} (x : Keep h h') : Chg X h h' := fun b o _ e => x b o e
theorem Chg.trans {X : List Addr} {a b c : Heap} (x : Chg X a b) (y : Chg X b c) : Chg X a c := fun b o hb e => y b o hb (x b o hb e)
theorem Chg.mono {X Y : List Addr} {h h' : Heap} (x : Chg X h h') (k : ∀ b ∈ X, b ∈ Y) : Chg Y h h' := fun b o hb e => x b o (fun q => hb (k b q)) e
theorem Keep.lt {h h' : Heap} {a : Addr} (k : Keep h h') (x : ∃ o, h.get? a = some o) : ∃ o, h'.get? a = some o := let ⟨o, e⟩ := x; ⟨o, k _ _ e⟩

/-- the heap less what may turn -/

theorem g_not {X : List Addr} {h : Heap} {b : Addr} {o : Obj} (e : (G X h).get? b = some o) : b ∉ X := fun q => by
  rw [hideAll_none X q] at e; cases e
theorem g_sub {X : List Addr} {h : Heap} : Keep (G X h) h := fun _ _ e => of_hideAll X e
theorem g_get {X : List Addr} {h : Heap} {b : Addr} {o : Obj} (e : h.get? b = some o) (n : b ∉ X) : (G X h).get? b = some o := hideAll_get X e n
theorem g_chg {X : List Addr} {h h' : Heap} (k : Chg X h h') : Keep (G X h) (G X h') := fun b o e => g_get (k b o (g_not e) (g_sub b o e)) (g_not e)
theorem g_keep {X : List Addr} {h h' : Heap} (k : Keep h h') : Keep (G X h) (G X h') := g_chg k.chg
theorem g_less {X Y : List Addr} {h : Heap} (k : ∀ b ∈ X, b ∈ Y) : Keep (G Y h) (G X h) := fun b o e => g_get (g_sub b o e) fun q => g_not e (k b q)
theorem g_tail {x : Addr} {X : List Addr} {h : Heap} : Keep (G (x :: X) h) (G X h) := g_less fun _ q => .tail _ q
theorem g_more {x : Addr} {X : List Addr} {h h' : Heap} (k : Chg X h h') (n : h.get? x = none) : Keep (G X h) (G (x :: X) h') := fun b o e =>
  g_get (k b o (g_not e) (g_sub b o e)) fun q => by
    rcases List.mem_cons.mp q with rfl | q
    · have := g_sub b o e; rw [n] at this; cases this
    · exact g_not e q
theorem none_of_size (h : Heap) : h.get? h.objs.size = none := by
  cases e : h.get? h.objs.size with
  | none => rfl
  | some o => exact absurd (Heap.lt_size e) (Nat.lt_irrefl _)

def TupX (g : Heap) (a : Addr) (vs : List Value) : Prop := ∃ n, g.get? a = some { cls := .type "tuple", data := .seq vs.toArray n }
def LstX (g : Heap) (a : Addr) (vs : List Value) : Prop := ∃ n, g.get? a = some { cls := .type "list", data := .seq vs.toArray n }
theorem TupX.keep {g g' : Heap} {a : Addr} {vs : List Value} (k : Keep g g') (x : TupX g a vs) : TupX g' a vs := let ⟨n, e⟩ := x; ⟨n, k _ _ e⟩
theorem LstX.keep {g g' : Heap} {a : Addr} {vs : List Value} (k : Keep g g') (x : LstX g a vs) : LstX g' a vs := let ⟨n, e⟩ := x; ⟨n, k _ _ e⟩
theorem TupX.is {g : Heap} {a : Addr} {vs : List Value} (x : TupX g a vs) : g.IsTuple a vs.toArray := let ⟨n, e⟩ := x; ⟨_, e, rfl, n, rfl⟩
theorem LstX.is {g : Heap} {a : Addr} {vs : List Value} (x : LstX g a vs) : g.IsList a vs.toArray := let ⟨n, e⟩ := x; ⟨_, e, rfl, n, rfl⟩

mutual
inductive RV (W : Wd) (g : Heap) : Value → D → Prop
  | none : RV W g .none .none
  | bool (b : Bool) : RV W g (.bool b) (.bool b)
  | int (i : Int) (t : Tok) : RV W g (.int i t) (.int i)
  | str (x : Str) (t : Tok) : RV W g (.str x t) (.str x)
  | tup {a : Addr} {vs : List Value} {ds : List D} : TupX g a vs → RVs W g vs ds → RV W g (.ref a) (.tup ds)
  | lst {a : Addr} {vs : List Value} {ds : List D} : LstX g a vs → RVs W g vs ds → RV W g (.ref a) (.lst ds)
  | dct {a : Addr} {k : Str} {v : Value} {d : D} {ep : Nat} : (a == sysModules) = false → g.DictAt (strKind W.prog W.w) a [(k, v)] ep → RV W g v d → RV W g (.ref a) (.dct k d)
  | emp {a : Addr} {ep : Nat} : (a == sysModules) = false → g.DictAt (strKind W.prog W.w) a [] ep → RV W g (.ref a) .emp
  | ems {v a : Addr} {ep : Nat} : (a == sysModules) = false → g.IsItemsView v a → g.DictAt (strKind W.prog W.w) a [] ep → RV W g (.ref v) .ems
  | rng {r : Addr} {a b : Int} {t u v : Tok} : IsRange g r a b 1 t u v → RV W g (.ref r) (.rng a b)
  | adr (a : Addr) : RV W g (.ref a) (.adr a)
inductive RVs (W : Wd) (g : Heap) : List Value → List D → Prop
  | nil : RVs W g [] []
  | cons {v : Value} {d : D} {vs : List Value} {ds : List D} : RV W g v d → RVs W g vs ds → RVs W g (v :: vs) (d :: ds)
end


theorem RV.keep {W : Wd} {g g' : Heap} (k : Keep g g') {v : Value} {d : D} (r : RV W g v d) : RV W g' v d :=
  RV.rec (motive_1 := fun v d _ => RV W g' v d) (motive_2 := fun vs ds _ => RVs W g' vs ds) .none .bool .int .str (fun x _ ih => .tup (x.keep k) ih) (fun x _ ih => .lst (x.keep k) ih) (fun s x _ ih => .dct s (x.keep k) ih) (fun s x => .emp s (x.keep k))
    (fun s x y => .ems s (let ⟨o, ho, r⟩ := x; ⟨o, k _ _ ho, r⟩) (y.keep k)) (fun x => .rng (k _ _ x)) .adr .nil (fun _ _ x y => .cons x y) r
theorem RVs.keep {W : Wd} {g g' : Heap} (k : Keep g g') {vs : List Value} {ds : List D} (r : RVs W g vs ds) : RVs W g' vs ds :=
  RVs.rec (motive_1 := fun v d _ => RV W g' v d) (motive_2 := fun vs ds _ => RVs W g' vs ds) .none .bool .int .str (fun x _ ih => .tup (x.keep k) ih) (fun x _ ih => .lst (x.keep k) ih) (fun s x _ ih => .dct s (x.keep k) ih) (fun s x => .emp s (x.keep k))
    (fun s x y => .ems s (let ⟨o, ho, r⟩ := x; ⟨o, k _ _ ho, r⟩) (y.keep k)) (fun x => .rng (k _ _ x)) .adr .nil (fun _ _ x y => .cons x y) r
theorem RV.inv {W : Wd} {g : Heap} {v : Value} {d : D} (r : RV W g v d) : match d with
    | .none => v = .none
    | .bool b => v = .bool b
    | .int i => ∃ t, v = .int i t
    | .str x => ∃ t, v = .str x t
    | .tup ds => ∃ a vs, v = .ref a ∧ TupX g a vs ∧ RVs W g vs ds
    | .lst ds => ∃ a vs, v = .ref a ∧ LstX g a vs ∧ RVs W g vs ds
    | .adr a => v = .ref a
    | _ => True := by
  cases r <;> first | rfl | trivial | exact ⟨_, rfl⟩ | exact ⟨_, _, rfl, by assumption, by assumption⟩
theorem RVs.inv {W : Wd} {g : Heap} {vs : List Value} {ds : List D} (r : RVs W g vs ds) : match ds with
    | [] => vs = []
    | d :: ds => ∃ v vs', vs = v :: vs' ∧ RV W g v d ∧ RVs W g vs' ds := by
  cases r <;> first | rfl | exact ⟨_, _, rfl, by assumption, by assumption⟩
theorem RV.inv_lst {W : Wd} {g : Heap} {v : Value} {ds : List D} (r : RV W g v (.lst ds)) : ∃ a vs, v = .ref a ∧ LstX g a vs ∧ RVs W g vs ds := r.inv
theorem RV.inv_tup {W : Wd} {g : Heap} {v : Value} {ds : List D} (r : RV W g v (.tup ds)) : ∃ a vs, v = .ref a ∧ TupX g a vs ∧ RVs W g vs ds := r.inv
theorem RVs.inv_cons {W : Wd} {g : Heap} {vs : List Value} {d : D} {ds : List D} (r : RVs W g vs (d :: ds)) : ∃ v vs', vs = v :: vs' ∧ RV W g v d ∧ RVs W g vs' ds := r.inv
theorem RVs.inv_nil {W : Wd} {g : Heap} {vs : List Value} (r : RVs W g vs []) : vs = [] := r.inv
theorem RVs.length {W : Wd} {g : Heap} : ∀ {vs : List Value} {ds : List D}, RVs W g vs ds → vs.length = ds.length
  | _, _, .nil => rfl
  | _, _, .cons _ r => congrArg (· + 1) (RVs.length r)
theorem RVs.get {W : Wd} {g : Heap} : ∀ {vs : List Value} {ds : List D}, RVs W g vs ds → ∀ {i : Nat} {d : D}, ds[i]? = some d → ∃ v, vs[i]? = some v ∧ RV W g v d
  | _, _, .nil, i, d, e => by simp at e
  | _, _, .cons (v := v) x r, 0, d, e => by simp at e; subst e; exact ⟨v, rfl, x⟩
  | _, _, .cons x r, i + 1, d, e => by
    obtain ⟨v, e', y⟩ := RVs.get r (i := i) (by simpa using e)
    exact ⟨v, by simpa using e', y⟩
theorem RVs.append {W : Wd} {g : Heap} {vs vs' : List Value} {ds ds' : List D} (x : RVs W g vs ds) (y : RVs W g vs' ds') : RVs W g (vs ++ vs') (ds ++ ds') := by
  induction vs generalizing ds with
  | nil => cases x; exact y
  | cons v r ih => cases x with | cons a b => exact .cons a (ih b)

/-- room on the stack -/
def Room (b : Nat) (A : Around) : Prop := A.depth + b ≤ 600 ∧ A.units + 20 * b ≤ 9000
theorem Room.mono {b b' : Nat} {A : Around} (r : Room b A) (h : b' ≤ b) : Room b' A := ⟨by have := r.1; omega, by have := r.2; omega⟩
theorem Room.deeper {b : Nat} {A : Around} {env : PySem.Env} (r : Room (b + 1) A) : Room b (A.deeper env) := by
  obtain ⟨x, y⟩ := r
  refine ⟨?_, ?_⟩
  · show A.depth + 1 + b ≤ 600; omega
  · show A.units + 3 + 20 * b ≤ 9000; omega
theorem Room.depth {b : Nat} {A : Around} (r : Room b A) : A.depth < recursionLimit := by have := r.1; show A.depth < 1000; omega
theorem Room.units {b : Nat} {A : Around} (r : Room b A) : A.units < cLine := by have := r.2; show A.units < 9900; omega
theorem Room.units1 {b : Nat} {A : Around} (r : Room b A) : A.in1.units < cLine := by have := r.2; show A.units + 1 < 9900; omega

/-- what is being handled, if anything, has no context of its own -/
def HOk (W : Wd) (A : Around) (g : Heap) : Prop := A.handled = none ∨ W.hn = false ∧ ∃ e o vs, A.handled = some (.ref e) ∧ g.get? e = some o ∧ o.data = .fields vs ∧ vs[2]? = some .none
theorem HOk.keep {W : Wd} {A : Around} {g g' : Heap} (k : Keep g g') (x : HOk W A g) : HOk W A g' := by
  rcases x with x | ⟨n, e, o, vs, a, b, c, d⟩
  · exact .inl x
  · exact .inr ⟨n, e, o, vs, a, k _ _ b, c, d⟩
theorem HOk.none {W : Wd} {A : Around} {g : Heap} (x : HOk W A g) (h : W.hn = true) : A.handled = none := by
  rcases x with x | ⟨n, _⟩
  · exact x
  · rw [h] at n; cases n

/-- a def of the text's top -/
def FnAt (W : Wd) (g : Heap) (n : Str) (a : Arguments) (bd : List Stmt) (sc : Scope) : Prop :=
  ∃ f c o pm doc, W.mg n = some (.ref f) ∧ g.get? f = some o ∧ o.data = .func (docDef n a bd sc pm (.ref c) doc) ∧ g.CodeRec (.ref c) n
theorem FnAt.keep {W : Wd} {g g' : Heap} {n : Str} {a : Arguments} {bd : List Stmt} {sc : Scope} (k : Keep g g') (x : FnAt W g n a bd sc) : FnAt W g' n a bd sc := by
  obtain ⟨f, c, o, pm, doc, x1, x2, x3, x4⟩ := x
  exact ⟨f, c, o, pm, doc, x1, k _ _ x2, x3, x4.keeps k⟩

/-- the object of the class CasFail -/
def CfO (C N : Addr) (o : Obj) : Prop := ∃ nm q bs sn sub col dd k0 k1 k2 k3 k5, o = excClassObj nm q C N bs [.type "Exception", .type "BaseException", .type "object"] true sn sub false col dd k0 k1 k2 k3 k5 "Exception.__new__"
/-- the class CasFail -/
structure CfAt (W : Wd) (g : Heap) : Prop where
  ex : ∃ C N mN oC f o pm doc c, W.mg (Str.ofString "CasFail") = some (.ref C) ∧ g.get? C = some oC ∧ CfO C N oC ∧
    g.Ns N mN ∧ mN (Str.ofString "__init__") = some (.ref f) ∧ (∀ n ∈ (["__setattr__", "kind", "text", "__getattribute__", "__getattr__"] : List String).map Str.ofString, mN n = none) ∧
    g.get? f = some o ∧ o.cls = .type "function" ∧ o.data = .func (methDef (Str.ofString "__init__") (Str.ofString "CasFail.__init__") (argsS initS) (bodyS initS) (scopeS initS) pm (.ref c) doc) ∧ g.CodeRec (.ref c) (Str.ofString "CasFail.__init__")
theorem CfAt.keep {W : Wd} {g g' : Heap} (k : Keep g g') (x : CfAt W g) : CfAt W g' := by
  obtain ⟨C, N, mN, oC, f, o, pm, doc, c, h1, h2, hc, h3, h4, h5, h6, h7, h8, h9⟩ := x
  exact ⟨C, N, mN, oC, f, o, pm, doc, c, h1, k _ _ h2, hc, h3.keeps k, h4, h5, k _ _ h6, h7, h8, h9.keeps k⟩

/-- what the walk asks of the text's top -/
structure TopOK (W : Wd) (g : Heap) : Prop where
  gl : g.Ns mainGlobals W.mg
  bt : g.Ns builtinsNs W.mb
  lim : g.NoLimit
  fn : ∀ k, k < 92 → (match stm k with | .FunctionDef .. => true | _ => false) = true → FnAt W g (nameS (stm k)) (argsS (stm k)) (bodyS (stm k)) (scopeS (stm k))
  bi : ∀ x : Str, W.mg x = none → x ≠ "__name__" → W.mb x = bootBuiltins x
  cf : CfAt W g
  fr : ∀ a o, W.K a = some o → g.get? a = some o
theorem TopOK.keep {W : Wd} {g g' : Heap} (k : Keep g g') (x : TopOK W g) : TopOK W g' :=
  ⟨x.gl.keeps k, x.bt.keeps k, x.lim.keeps k, fun i a b => (x.fn i a b).keep k, x.bi, x.cf.keep k, fun a o e => k _ _ (x.fr a o e)⟩

/-- what a step may lean on -/
structure Cx (W : Wd) (b : Nat) (A : Around) (X : List Addr) (h : Heap) : Prop where
  room : Room b A
  has : ∀ x ∈ X, ∃ o, h.get? x = some o
  top : TopOK W (G X h)
  hok : HOk W A (G X h)
theorem Cx.keep {W : Wd} {b : Nat} {A : Around} {X : List Addr} {h h' : Heap} (c : Cx W b A X h) (k : Keep h h') : Cx W b A X h' := ⟨c.room, fun x hx => k.lt (c.has x hx), c.top.keep (g_keep k), c.hok.keep (g_keep k)⟩
theorem Cx.fresh {W : Wd} {b : Nat} {A : Around} {X : List Addr} {h : Heap} (c : Cx W b A X h) {a : Addr} (n : h.get? a = none) : a ∉ X := fun q => by
  obtain ⟨o, ho⟩ := c.has a q
  rw [n] at ho; cases ho
theorem Cx.less {W : Wd} {b b' : Nat} {A : Around} {X : List Addr} {h : Heap} (c : Cx W b A X h) (l : b' ≤ b) : Cx W b' A X h := ⟨c.room.mono l, c.has, c.top, c.hok⟩

abbrev Env := List (Str × D)

def VarAt (W : Wd) (env : PySem.Env) (m : Str → Option Value) (x : Str) (d : D) (g : Heap) : Prop :=
  ∃ v, RV W g v d ∧ ((env.kindOf x = some .local ∧ m x = some v) ∨ ((env.kindOf x = some .cell ∨ (env.kindOf x = some .free ∧ (x == ("__classdict__" : Str)) = false)) ∧ ∃ c, env.cells.lookup x = some c ∧ g.IsCell c (some v)))
theorem VarAt.keep {W : Wd} {env : PySem.Env} {m : Str → Option Value} {x : Str} {d : D} {g g' : Heap} (k : Keep g g') (y : VarAt W env m x d g) : VarAt W env m x d g' := by
  obtain ⟨v, r, z⟩ := y
  refine ⟨v, r.keep k, ?_⟩
  rcases z with z | ⟨z, c, z1, z2⟩
  · exact .inl z
  · exact .inr ⟨z, c, z1, z2.keeps k⟩

structure EnvOK (W : Wd) (b : Nat) (sc : Scope) (A : Around) (env : PySem.Env) (σ : Env) (X : List Addr) (h : Heap) : Prop where
  scope : env.scope = sc
  kind : sc.kind = .function
  glob : env.globals = mainGlobals
  bui : env.builtins = builtinsNs
  room : Room b A
  inX : env.locals ∈ X
  has : ∀ x ∈ X, ∃ o, h.get? x = some o
  top : TopOK W (G X h)
  hok : HOk W A (G X h)
  loc : ∃ m, h.Ns env.locals m ∧ ∀ x d, σ.lookup x = some d → VarAt W env m x d (G X h)

theorem EnvOK.keep {W : Wd} {b : Nat} {sc : Scope} {A : Around} {env : PySem.Env} {σ : Env} {X : List Addr} {h h' : Heap} (k : Keep h h') (e : EnvOK W b sc A env σ X h) : EnvOK W b sc A env σ X h' := by
  obtain ⟨m, n, l⟩ := e.loc
  exact ⟨e.scope, e.kind, e.glob, e.bui, e.room, e.inX, fun x hx => k.lt (e.has x hx), e.top.keep (g_keep k), e.hok.keep (g_keep k), m, n.keeps k, fun x d q => (l x d q).keep (g_keep k)⟩

theorem EnvOK.cx {W : Wd} {b : Nat} {sc : Scope} {A : Around} {env : PySem.Env} {σ : Env} {X : List Addr} {h : Heap} (e : EnvOK W b sc A env σ X h) : Cx W b A X h := ⟨e.room, e.has, e.top, e.hok⟩
theorem EnvOK.fresh {W : Wd} {b : Nat} {sc : Scope} {A : Around} {env : PySem.Env} {σ : Env} {X : List Addr} {h : Heap} (e : EnvOK W b sc A env σ X h) {a : Addr} (n : h.get? a = none) : a ∉ X := fun q => by
  obtain ⟨o, ho⟩ := e.has a q
  rw [n] at ho; cases ho

/-- an expression gives a datum -/
structure Ev (W : Wd) (b : Nat) (sc : Scope) (σ : Env) (e : Expr) (d : D) : Prop where
  go : ∀ (A : Around) (env : PySem.Env) (X : List Addr) (s : Shared) (Q E : Value → Shared → Prop), EnvOK W b sc A env σ X s.heap →
    (∀ v h' tk', Keep s.heap h' → RV W (G X h') v d → Q v { s with heap := h', toks := tk' }) → wpAny (model W.prog W.w) A (eval e env) Q E s

/-- a list of expressions gives data -/
structure Evs (W : Wd) (b : Nat) (sc : Scope) (σ : Env) (es : List Expr) (ds : List D) : Prop where
  go : ∀ (A : Around) (env : PySem.Env) (X : List Addr) (s : Shared) (pos : Pos) (Q : List Value → Shared → Prop) (E : Value → Shared → Prop), EnvOK W b sc A env σ X s.heap →
    (∀ vs h' tk', Keep s.heap h' → RVs W (G X h') vs ds → Q vs { s with heap := h', toks := tk' }) → wpAny (model W.prog W.w) A (spliced (backTo pos (starEach es env))) Q E s

/-- a test comes out -/
structure Ts (W : Wd) (b : Nat) (sc : Scope) (σ : Env) (e : Expr) (c : Bool) : Prop where
  go : ∀ (A : Around) (env : PySem.Env) (X : List Addr) (s : Shared) (Q : Bool → Shared → Prop) (E : Value → Shared → Prop), EnvOK W b sc A env σ X s.heap →
    (∀ h' tk', Keep s.heap h' → Q c { s with heap := h', toks := tk' }) → wpAny (model W.prog W.w) A (isTrue e env (eval e env)) Q E s

/-- a def of the top stands at a name -/
def IsFn (x : Str) : Prop := ∃ k, k < 92 ∧ (match stm k with | .FunctionDef .. => true | _ => false) = true ∧ nameS (stm k) = x

/-- a def of the top, called -/
structure CallOK (W : Wd) (b : Nat) (f : Str) (ds : List D) (d : D) : Prop where
  isfn : IsFn f
  go : ∀ (A : Around) (X : List Addr) (s : Shared) (a : Addr) (vs : List Value) (Q E : Value → Shared → Prop), W.mg f = some (.ref a) → Cx W b A X s.heap → RVs W (G X s.heap) vs ds → (∀ v h' tk', Keep s.heap h' → RV W (G X h') v d → Q v { s with heap := h', toks := tk' }) →
    wpAny (model W.prog W.w) A (call (.ref a) vs) Q E s

inductive Out where
  | nxt (σ : Env)
  | ret (d : D)

def OutOK (W : Wd) (b : Nat) (sc : Scope) (A : Around) (env : PySem.Env) (X : List Addr) (o : Out) (f : Flow) (h : Heap) : Prop := match o with
  | .nxt τ => f = .next ∧ EnvOK W b sc A env τ X h
  | .ret d => ∃ v, f = .ret v ∧ RV W (G X h) v d

/-- statements of a def's body -/
structure Xs (W : Wd) (b : Nat) (sc : Scope) (σ : Env) (ss : List Stmt) (o : Out) : Prop where
  go : ∀ (A : Around) (env : PySem.Env) (X : List Addr) (s : Shared) (Q : Flow → Shared → Prop) (E : Value → Shared → Prop), EnvOK W b sc A env σ X s.heap →
    (∀ f h' tk', Chg [env.locals] s.heap h' → OutOK W b sc A env X o f h' → Q f { s with heap := h', toks := tk' }) → wpAny (model W.prog W.w) A (execs ss env) Q E s
section
variable {W : Wd} {b : Nat} {sc : Scope} {σ : Env}

theorem ev_int {i : Int} {k : Nat} {p : Pos} : Ev W b sc σ (.Constant (.int i) k p) (.int i) := .mk fun A env X s Q E e h =>
  wpAny_Constant_int (h _ _ _ Keep.rfl' (.int _ _))
theorem ev_str {x : Str} {k : Nat} {p : Pos} : Ev W b sc σ (.Constant (.str x) k p) (.str x) := .mk fun A env X s Q E e h =>
  wpAny_Constant_str (h _ _ _ Keep.rfl' (.str _ _))
theorem ev_true {c : Bool} {k : Nat} {p : Pos} : Ev W b sc σ (.Constant (.bool c) k p) (.bool c) := .mk fun A env X s Q E e h =>
  wpAny_Constant_bool (h _ _ _ Keep.rfl' (.bool _))

theorem ev_var {x : Str} {p : Pos} {d : D} (hx : σ.lookup x = some d) (hd : (x == ("__debug__" : Str)) = false) : Ev W b sc σ (.Name x p) d := .mk fun A env X s Q E e h => by
  obtain ⟨m, n, l⟩ := e.loc
  obtain ⟨v, r, z⟩ := l x d hx
  have hk : env.scope.kind = .function := by rw [e.scope]; exact e.kind
  have q : Q v s := h v s.heap s.toks Keep.rfl' r
  rcases z with ⟨z1, z2⟩ | ⟨z1 | ⟨z1, z4⟩, c, z2, z3⟩
  · exact wpAny_Name (wpAny_loadName_local hk z1 n z2 q) hd
  · exact wpAny_Name (wpAny_loadName_cell hk z1 z2 (z3.keeps g_sub) q) hd
  · exact wpAny_Name (wpAny_loadName_free hk z1 z2 (z3.keeps g_sub) q z4) hd

/-- a name of the top whose value is a datum -/
def Con (W : Wd) (x : Str) (d : D) : Prop := ∀ g, TopOK W g → ∃ v, W.mg x = some v ∧ RV W g v d
theorem ev_con {x : Str} {p : Pos} {d : D} (c : Con W x d) (hk : sc.names.lookup x = some .globalImplicit) (hd : (x == ("__debug__" : Str)) = false) : Ev W b sc σ (.Name x p) d := .mk fun A env X s Q E e h => by
  obtain ⟨v, hv, r⟩ := c _ e.top
  refine Name_function_global (by rw [e.scope]; exact e.kind) (by show env.scope.names.lookup x = _; rw [e.scope]; exact hk) (loadGlobal_global (mg := W.mg) ?_ hv (h v s.heap s.toks Keep.rfl' r)) hd
  rw [e.glob]; exact e.top.gl.keeps g_sub

/-- an operation of two values -/
structure Op2 (W : Wd) (b : Nat) (f : Value → Value → Sem Value) (x y d : D) : Prop where
  go : ∀ (A : Around) (X : List Addr) (s : Shared) (u v : Value) (Q E : Value → Shared → Prop), Cx W b A X s.heap → RV W (G X s.heap) u x → RV W (G X s.heap) v y →
    (∀ r h' tk', Keep s.heap h' → RV W (G X h') r d → Q r { s with heap := h', toks := tk' }) → wpAny (model W.prog W.w) A (f u v) Q E s

theorem ev_bin {l r : Expr} {op : Operator} {p : Pos} {x y d : D} (h1 : Ev W b sc σ l x) (h2 : Ev W b sc σ r y) (o : Op2 W b (binaryOp op) x y d) : Ev W b sc σ (.BinOp l op r p) d := .mk fun A env X s Q E e h =>
  wpAny_BinOp (h1.go A env X s _ _ e fun u h₁ t₁ k₁ r₁ => h2.go A env X _ _ _ (e.keep k₁) fun v h₂ t₂ k₂ r₂ =>
    o.go A X _ u v _ _ ((e.keep k₁).keep k₂).cx (r₁.keep (g_keep k₂)) r₂ fun r h₃ t₃ k₃ r₃ => h r h₃ t₃ ((k₁.trans k₂).trans k₃) r₃)

theorem ev_cmp {l r : Expr} {op : CmpOp} {p : Pos} {x y d : D} (h1 : Ev W b sc σ l x) (h2 : Ev W b sc σ r y) (o : Op2 W b (compareOp op) x y d) (hm : behindInMarks op r = false) : Ev W b sc σ (.Compare l [op] [r] p) d := .mk fun A env X s Q E e h =>
  wpAny_Compare1 (hm := hm) (h1.go A env X s _ _ e fun u h₁ t₁ k₁ r₁ => h2.go A env X _ _ _ (e.keep k₁) fun v h₂ t₂ k₂ r₂ =>
    o.go A X _ u v _ _ ((e.keep k₁).keep k₂).cx (r₁.keep (g_keep k₂)) r₂ fun r h₃ t₃ k₃ r₃ => h r h₃ t₃ ((k₁.trans k₂).trans k₃) r₃)

theorem evs_nil : Evs W b sc σ [] [] := .mk fun A env X s pos Q E e h => wpAny_items_nil (h [] s.heap s.toks Keep.rfl' .nil)
theorem evs_cons {x : Expr} {r : List Expr} {d : D} {ds : List D} (h1 : Ev W b sc σ x d) (h2 : Evs W b sc σ r ds) (hs : ∀ env, starEach (x :: r) env = (false, eval x env) :: starEach r env) : Evs W b sc σ (x :: r) (d :: ds) := .mk fun A env X s pos Q E e h =>
  wpAny_items_cons (he := hs env) (h1.go A env X s _ _ e fun u h₁ t₁ k₁ r₁ => h2.go A env X _ pos _ _ (e.keep k₁) fun vs h₂ t₂ k₂ r₂ => h (u :: vs) h₂ t₂ (k₁.trans k₂) (.cons (r₁.keep (g_keep k₂)) r₂))

theorem sizeLine_is : sizeLine = 16777216 := by decide +kernel
theorem small_vs {g : Heap} {vs : List Value} {ds : List D} (r : RVs W g vs ds) (h : ds.length ≤ 1000) : vs.length ≤ sizeLine := by rw [r.length, sizeLine_is]; omega

theorem rv_newTup {X : List Addr} {h : Heap} {vs : List Value} {ds : List D} (r : RVs W (G X h) vs ds) (n : h.objs.size ∉ X) : RV W (G X (h.push { cls := .type "tuple", data := .seq vs.toArray })) (.ref h.objs.size) (.tup ds) :=
  .tup ⟨_, g_get (Heap.get?_push_size _ rfl) n⟩ (r.keep (g_keep fun _ _ e => Heap.get?_push_of_some _ e))
theorem rv_newLst {X : List Addr} {h : Heap} {vs : List Value} {ds : List D} (r : RVs W (G X h) vs ds) (n : h.objs.size ∉ X) : RV W (G X (h.push { cls := .type "list", data := .seq vs.toArray })) (.ref h.objs.size) (.lst ds) :=
  .lst ⟨_, g_get (Heap.get?_push_size _ rfl) n⟩ (r.keep (g_keep fun _ _ e => Heap.get?_push_of_some _ e))

theorem ev_tup {es : List Expr} {k : Nat} {p : Pos} {ds : List D} (h1 : Evs W b sc σ es ds) (hl : ds.length ≤ 1000) : Ev W b sc σ (.Tuple es k p) (.tup ds) := .mk fun A env X s Q E e h =>
  wpAny_Tuple (h1.go A env X s p _ _ e fun vs h₁ t₁ k₁ r₁ => ⟨small_vs r₁ hl, h _ _ _ (k₁.trans fun _ _ e => Heap.get?_push_of_some _ e) (rv_newTup r₁ ((e.keep k₁).fresh (none_of_size _)))⟩)
theorem ev_lst {es : List Expr} {p : Pos} {ds : List D} (h1 : Evs W b sc σ es ds) (hl : ds.length ≤ 1000) : Ev W b sc σ (.List es p) (.lst ds) := .mk fun A env X s Q E e h =>
  wpAny_List (h1.go A env X s p _ _ e fun vs h₁ t₁ k₁ r₁ => ⟨small_vs r₁ hl, h _ _ _ (k₁.trans fun _ _ e => Heap.get?_push_of_some _ e) (rv_newLst r₁ ((e.keep k₁).fresh (none_of_size _)))⟩)

theorem ev_if_true {t x y : Expr} {p : Pos} {d : D} (ht : Ts W b sc σ t true) (h1 : Ev W b sc σ x d) : Ev W b sc σ (.IfExp t x y p) d := .mk fun A env X s Q E e h =>
  wpAny_IfExp (ht.go A env X s _ _ e fun h₁ t₁ k₁ => h1.go A env X _ _ _ (e.keep k₁) fun v h₂ t₂ k₂ r => h v h₂ t₂ (k₁.trans k₂) r)
theorem ev_if_false {t x y : Expr} {p : Pos} {d : D} (ht : Ts W b sc σ t false) (h1 : Ev W b sc σ y d) : Ev W b sc σ (.IfExp t x y p) d := .mk fun A env X s Q E e h =>
  wpAny_IfExp (ht.go A env X s _ _ e fun h₁ t₁ k₁ => h1.go A env X _ _ _ (e.keep k₁) fun v h₂ t₂ k₂ r => h v h₂ t₂ (k₁.trans k₂) r)

/-- tests -/
theorem ts_val {x : Expr} {c : Bool} (h1 : Ev W b sc σ x (.bool c)) (he : ∀ env whole, isTrue x env whole = (do let v ← whole; standAt x.pos; holding [v] (truthy v))) : Ts W b sc σ x c := .mk fun A env X s Q E e h =>
  wpAny_isTrue_value (he := he env _) (h1.go A env X s _ _ e fun v h₁ t₁ k₁ r₁ => by cases r₁; exact wpAny_truthy_bool (h _ _ k₁))
theorem ts_cmp {l r : Expr} {op : CmpOp} {p : Pos} {x y : D} {c : Bool} (h1 : Ev W b sc σ l x) (h2 : Ev W b sc σ r y) (o : Op2 W b (compareOp op) x y (.bool c)) (hm : behindInMarks op r = false) : Ts W b sc σ (.Compare l [op] [r] p) c := .mk fun A env X s Q E e h =>
  wpAny_isTrue_Compare1 (hm := hm) (h1.go A env X s _ _ e fun u h₁ t₁ k₁ r₁ => h2.go A env X _ _ _ (e.keep k₁) fun v h₂ t₂ k₂ r₂ =>
    o.go A X _ u v _ _ ((e.keep k₁).keep k₂).cx (r₁.keep (g_keep k₂)) r₂ fun r h₃ t₃ k₃ r₃ => by cases r₃; exact wpAny_truthy_bool (h _ _ ((k₁.trans k₂).trans k₃)))
theorem ts_not {x : Expr} {p : Pos} {c : Bool} (h1 : Ts W b sc σ x c) : Ts W b sc σ (.UnaryOp .Not x p) (!c) := .mk fun A env X s Q E e h =>
  wpAny_isTrue_Not (h1.go A env X s _ _ e fun h₁ t₁ k₁ => h h₁ t₁ k₁)

/-- the tests of a BoolOp -/
structure Tss (W : Wd) (b : Nat) (sc : Scope) (σ : Env) (op : BoolOp) (es : List Expr) (c : Bool) : Prop where
  go : ∀ (A : Around) (env : PySem.Env) (X : List Addr) (s : Shared) (Q : Bool → Shared → Prop) (E : Value → Shared → Prop), EnvOK W b sc A env σ X s.heap →
    (∀ h' tk', Keep s.heap h' → Q c { s with heap := h', toks := tk' }) → wpAny (model W.prog W.w) A (allTrue op es env) Q E s
theorem ts_bool {op : BoolOp} {es : List Expr} {p : Pos} {c : Bool} (h1 : Tss W b sc σ op es c) : Ts W b sc σ (.BoolOp op es p) c := .mk fun A env X s Q E e h => wpAny_isTrue_BoolOp (h1.go A env X s Q E e h)
theorem tss_and_nil : Tss W b sc σ .And [] true := .mk fun A env X s Q E e h => wpAny_allTrue_And_nil (h s.heap s.toks Keep.rfl')
theorem tss_or_nil : Tss W b sc σ .Or [] false := .mk fun A env X s Q E e h => wpAny_allTrue_Or_nil (h s.heap s.toks Keep.rfl')
theorem tss_and_no {x : Expr} {r : List Expr} (h1 : Ts W b sc σ x false) : Tss W b sc σ .And (x :: r) false := .mk fun A env X s Q E e h =>
  wpAny_allTrue_And_cons (h1.go A env X s _ _ e fun h₁ t₁ k₁ => h h₁ t₁ k₁)
theorem tss_and_go {x : Expr} {r : List Expr} {c : Bool} (h1 : Ts W b sc σ x true) (h2 : Tss W b sc σ .And r c) : Tss W b sc σ .And (x :: r) c := .mk fun A env X s Q E e h =>
  wpAny_allTrue_And_cons (h1.go A env X s _ _ e fun h₁ t₁ k₁ => h2.go A env X _ _ _ (e.keep k₁) fun h₂ t₂ k₂ => h h₂ t₂ (k₁.trans k₂))
theorem tss_or_yes {x : Expr} {r : List Expr} (h1 : Ts W b sc σ x true) : Tss W b sc σ .Or (x :: r) true := .mk fun A env X s Q E e h =>
  wpAny_allTrue_Or_cons (h1.go A env X s _ _ e fun h₁ t₁ k₁ => h h₁ t₁ k₁)
theorem tss_or_go {x : Expr} {r : List Expr} {c : Bool} (h1 : Ts W b sc σ x false) (h2 : Tss W b sc σ .Or r c) : Tss W b sc σ .Or (x :: r) c := .mk fun A env X s Q E e h =>
  wpAny_allTrue_Or_cons (h1.go A env X s _ _ e fun h₁ t₁ k₁ => h2.go A env X _ _ _ (e.keep k₁) fun h₂ t₂ k₂ => h h₂ t₂ (k₁.trans k₂))

/-- a BoolOp's value: every part a bool -/
structure Bos (W : Wd) (b : Nat) (sc : Scope) (σ : Env) (op : BoolOp) (es : List Expr) (d : D) : Prop where
  go : ∀ (A : Around) (env : PySem.Env) (X : List Addr) (s : Shared) (pos : Pos) (Q E : Value → Shared → Prop), EnvOK W b sc A env σ X s.heap →
    (∀ v h' tk', Keep s.heap h' → RV W (G X h') v d → Q v { s with heap := h', toks := tk' }) → wpAny (model W.prog W.w) A (boolOp pos op (evalEach es env)) Q E s
theorem ev_bool {op : BoolOp} {es : List Expr} {p : Pos} {d : D} (h1 : Bos W b sc σ op es d) : Ev W b sc σ (.BoolOp op es p) d := .mk fun A env X s Q E e h => by
  rw [arm_eval_BoolOp]; exact h1.go A env X s p Q E e h
theorem bos_last {op : BoolOp} {x : Expr} {d : D} (h1 : Ev W b sc σ x d) : Bos W b sc σ op [x] d := .mk fun A env X s pos Q E e h => h1.go A env X s Q E e h
theorem bos_and_no {x y : Expr} {r : List Expr} (h1 : Ev W b sc σ x (.bool false)) : Bos W b sc σ .And (x :: y :: r) (.bool false) := .mk fun A env X s pos Q E e h => by
  show wpAny _ A (do
    let v ← eval x env
    standAt pos
    let t ← holding [v] (truthy v)
    match BoolOp.And, t with
    | .And, false | .Or, true => pure v
    | _, _ => boolOp pos .And (evalEach (y :: r) env)) Q E s
  refine wpAny_bind (h1.go A env X s _ _ e fun v h₁ t₁ k₁ r₁ => ?_)
  cases r₁
  exact wpAny_bind (wpAny_standAt (wpAny_bind (wpAny_holding (wpAny_truthy_bool (wpAny_pure (h _ _ _ k₁ (.bool _)))))))
theorem bos_and_go {x y : Expr} {r : List Expr} {d : D} (h1 : Ev W b sc σ x (.bool true)) (h2 : Bos W b sc σ .And (y :: r) d) : Bos W b sc σ .And (x :: y :: r) d := .mk fun A env X s pos Q E e h => by
  show wpAny _ A (do
    let v ← eval x env
    standAt pos
    let t ← holding [v] (truthy v)
    match BoolOp.And, t with
    | .And, false | .Or, true => pure v
    | _, _ => boolOp pos .And (evalEach (y :: r) env)) Q E s
  refine wpAny_bind (h1.go A env X s _ _ e fun v h₁ t₁ k₁ r₁ => ?_)
  cases r₁
  exact wpAny_bind (wpAny_standAt (wpAny_bind (wpAny_holding (wpAny_truthy_bool (h2.go A env X _ pos Q E (e.keep k₁) fun v h₂ t₂ k₂ r => h v h₂ t₂ (k₁.trans k₂) r)))))

/-- an item -/
theorem ev_item {v i : Expr} {p : Pos} {x y d : D} (h1 : Ev W b sc σ v x) (h2 : Ev W b sc σ i y)
    (o : ∀ (A : Around) (X : List Addr) (s : Shared) (u k : Value) (Q E : Value → Shared → Prop), Cx W b A X s.heap → RV W (G X s.heap) u x → RV W (G X s.heap) k y → (∀ r h' tk', Keep s.heap h' → RV W (G X h') r d → Q r { s with heap := h', toks := tk' }) →
      wpAny (model W.prog W.w) A (subscriptTail v i u k) Q E s) : Ev W b sc σ (.Subscript v i p) d := .mk fun A env X s Q E e h =>
  Subscript_ (h1.go A env X s _ _ e fun u h₁ t₁ k₁ r₁ => h2.go A env X _ _ _ (e.keep k₁) fun k h₂ t₂ k₂ r₂ => o A X _ u k _ _ ((e.keep k₁).keep k₂).cx (r₁.keep (g_keep k₂)) r₂ fun r h₃ t₃ k₃ r₃ => h r h₃ t₃ ((k₁.trans k₂).trans k₃) r₃)
theorem ev_item_tup {v i : Expr} {p : Pos} {ds : List D} {n : Nat} {d : D} (h1 : Ev W b sc σ v (.tup ds)) (h2 : Ev W b sc σ i (.int (n : Int))) (hx : ds[n]? = some d) (hn : n < 1000) (hs : ∀ o k, subscripted i false o k = operate [o, k] (getItem o k)) :
    Ev W b sc σ (.Subscript v i p) d := ev_item h1 h2 fun A X s u k Q E cx r1 r2 h => by
  cases r1 with
  | @tup a vs _ ht rs =>
    cases r2
    obtain ⟨z, hz, rz⟩ := rs.get hx
    have hlt : n < ds.length := by rcases Nat.lt_or_ge n ds.length with q | q; exact q; rw [List.getElem?_eq_none q] at hx; cases hx
    have ht' := (ht.keep g_sub).is
    refine tail_any ht'.typeIs F.slot_tuple_getitem.lookup (getItem_tuple (j := n) ht' (by omega) (by omega) ?_ (by simpa using hz) (h z s.heap s.toks Keep.rfl' rz)) (hs _ _)
    unfold seqIndex?
    have : n < vs.length := by rw [rs.length]; exact hlt
    have h0 : ¬ ((n : Int) < 0) := by omega
    simp only [h0, if_false, List.size_toArray]
    rw [if_pos (by simp only [Bool.and_eq_true, decide_eq_true_eq]; omega)]
    simp
theorem ev_item_lst {v i : Expr} {p : Pos} {ds : List D} {n : Nat} {d : D} (h1 : Ev W b sc σ v (.lst ds)) (h2 : Ev W b sc σ i (.int (n : Int))) (hx : ds[n]? = some d) (hn : n < 1000) (hs : ∀ o k, subscripted i false o k = operate [o, k] (getItem o k)) :
    Ev W b sc σ (.Subscript v i p) d := ev_item h1 h2 fun A X s u k Q E cx r1 r2 h => by
  cases r1 with
  | lst ht rs =>
    cases r2
    obtain ⟨z, hz, rz⟩ := rs.get hx
    have ht' := (ht.keep g_sub).is
    exact tail_any ht'.typeIs slot_list_getitem.lookup (wpAny_getItem_list ht' (by omega) (by omega) (by simpa using hz) (h z s.heap s.toks Keep.rfl' rz)) (hs _ _)
end
section
variable {W : Wd} {b : Nat}

theorem op_add {x y : Int} : Op2 W b (binaryOp .Add) (.int x) (.int y) (.int (x + y)) := .mk fun A X s u v Q E c r1 r2 h => by
  obtain ⟨_, rfl⟩ := r1.inv; obtain ⟨_, rfl⟩ := r2.inv; exact add_int (h _ _ _ Keep.rfl' (.int _ _))
theorem op_sub {x y : Int} : Op2 W b (binaryOp .Sub) (.int x) (.int y) (.int (x - y)) := .mk fun A X s u v Q E c r1 r2 h => by
  obtain ⟨_, rfl⟩ := r1.inv; obtain ⟨_, rfl⟩ := r2.inv; exact sub_int (h _ _ _ Keep.rfl' (.int _ _))
theorem op_mul {x y : Int} (m : IntMulOk x y) : Op2 W b (binaryOp .Mult) (.int x) (.int y) (.int (x * y)) := .mk fun A X s u v Q E c r1 r2 h => by
  obtain ⟨_, rfl⟩ := r1.inv; obtain ⟨_, rfl⟩ := r2.inv; exact mul_int (h _ _ _ Keep.rfl' (.int _ _)) m
theorem op_fdiv {x y : Int} (n : y ≠ 0) (m : Builtin.divisionGoesByPylong x y = false) : Op2 W b (binaryOp .FloorDiv) (.int x) (.int y) (.int (x.fdiv y)) := .mk fun A X s u v Q E c r1 r2 h => by
  obtain ⟨_, rfl⟩ := r1.inv; obtain ⟨_, rfl⟩ := r2.inv; exact floordiv_int n (h _ _ _ Keep.rfl' (.int _ _)) (.inl m)
theorem op_fmod {x y : Int} (n : y ≠ 0) : Op2 W b (binaryOp .Mod) (.int x) (.int y) (.int (x.fmod y)) := .mk fun A X s u v Q E c r1 r2 h => by
  obtain ⟨_, rfl⟩ := r1.inv; obtain ⟨_, rfl⟩ := r2.inv; exact mod_int n (h _ _ _ Keep.rfl' (.int _ _))
theorem op_pow {x y : Int} (n : 0 ≤ y) (m : (Builtin.Int.intBits x : Int) * y ≤ 2 ^ 27) : Op2 W b (binaryOp .Pow) (.int x) (.int y) (.int (x ^ y.toNat)) := .mk fun A X s u v Q E c r1 r2 h => by
  obtain ⟨_, rfl⟩ := r1.inv; obtain ⟨_, rfl⟩ := r2.inv; exact pow_int n m (h _ _ _ Keep.rfl' (.int _ _))
theorem op_addL {xs ys : List D} (n : xs.length ≤ 1000) (m : ys.length ≤ 1000) : Op2 W b (binaryOp .Add) (.lst xs) (.lst ys) (.lst (xs ++ ys)) := .mk fun A X s u v Q E c r1 r2 h => by
  cases r1 with
  | @lst l vs _ h1 q1 =>
    cases r2 with
    | @lst l' ws _ h2 q2 =>
      obtain ⟨n1, e1⟩ := h1.keep g_sub
      obtain ⟨n2, e2⟩ := h2.keep g_sub
      refine P.add_list (n := n1) (n2 := n2) e1 e2 (h _ _ _ (fun _ _ e => Heap.get?_push_of_some _ e) ?_) (by simp only [List.size_toArray]; rw [q1.length, q2.length, sizeLine_is]; omega)
      have := rv_newLst (q1.append q2) (c.fresh (none_of_size _))
      simpa using this

theorem op_eqI {x y : Int} {c : Bool} (e : (x == y) = c) : Op2 W b (compareOp .Eq) (.int x) (.int y) (.bool c) := .mk fun A X s u v Q E cx r1 r2 h => by
  obtain ⟨_, rfl⟩ := r1.inv; obtain ⟨_, rfl⟩ := r2.inv; subst e; exact eq_int (h _ _ _ Keep.rfl' (.bool _))
theorem op_neI {x y : Int} {c : Bool} (e : (x != y) = c) : Op2 W b (compareOp .NotEq) (.int x) (.int y) (.bool c) := .mk fun A X s u v Q E cx r1 r2 h => by
  obtain ⟨_, rfl⟩ := r1.inv; obtain ⟨_, rfl⟩ := r2.inv; subst e; exact ne_int (h _ _ _ Keep.rfl' (.bool _))
theorem op_ltI {x y : Int} {c : Bool} (e : decide (x < y) = c) : Op2 W b (compareOp .Lt) (.int x) (.int y) (.bool c) := .mk fun A X s u v Q E cx r1 r2 h => by
  obtain ⟨_, rfl⟩ := r1.inv; obtain ⟨_, rfl⟩ := r2.inv; subst e; exact lt_int (h _ _ _ Keep.rfl' (.bool _))
theorem op_leI {x y : Int} {c : Bool} (e : decide (x ≤ y) = c) : Op2 W b (compareOp .LtE) (.int x) (.int y) (.bool c) := .mk fun A X s u v Q E cx r1 r2 h => by
  obtain ⟨_, rfl⟩ := r1.inv; obtain ⟨_, rfl⟩ := r2.inv; subst e; exact le_int (h _ _ _ Keep.rfl' (.bool _))
theorem op_gtI {x y : Int} {c : Bool} (e : decide (y < x) = c) : Op2 W b (compareOp .Gt) (.int x) (.int y) (.bool c) := .mk fun A X s u v Q E cx r1 r2 h => by
  obtain ⟨_, rfl⟩ := r1.inv; obtain ⟨_, rfl⟩ := r2.inv; subst e; exact gt_int (h _ _ _ Keep.rfl' (.bool _))
theorem op_geI {x y : Int} {c : Bool} (e : decide (y ≤ x) = c) : Op2 W b (compareOp .GtE) (.int x) (.int y) (.bool c) := .mk fun A X s u v Q E cx r1 r2 h => by
  obtain ⟨_, rfl⟩ := r1.inv; obtain ⟨_, rfl⟩ := r2.inv; subst e; exact ge_int (h _ _ _ Keep.rfl' (.bool _))
theorem op_eqS {x y : Str} {c : Bool} (e : (x == y) = c) : Op2 W b (compareOp .Eq) (.str x) (.str y) (.bool c) := .mk fun A X s u v Q E cx r1 r2 h => by
  obtain ⟨_, rfl⟩ := r1.inv; obtain ⟨_, rfl⟩ := r2.inv; subst e; exact eq_str (h _ _ _ Keep.rfl' (.bool _))

-- plain data
mutual
inductive DP : D → PyData → Prop
  | none : DP .none .none
  | bool (b : Bool) : DP (.bool b) (.bool b)
  | int (i : Int) : DP (.int i) (.int i)
  | str (x : Str) : DP (.str x) (.str x)
  | tup {ds : List D} {ps : List PyData} : DPs ds ps → DP (.tup ds) (.tuple ps)
  | lst {ds : List D} {ps : List PyData} : DPs ds ps → DP (.lst ds) (.list ps)
inductive DPs : List D → List PyData → Prop
  | nil : DPs [] []
  | cons {d : D} {p : PyData} {ds : List D} {ps : List PyData} : DP d p → DPs ds ps → DPs (d :: ds) (p :: ps)
end
theorem DP.reads {g : Heap} {d : D} {p : PyData} (q : DP d p) {v : Value} (r : RV W g v d) : ∃ as, Reads g v p as :=
  DP.rec (motive_1 := fun d p _ => ∀ v, RV W g v d → ∃ as, Reads g v p as) (motive_2 := fun ds ps _ => ∀ vs, RVs W g vs ds → ∃ as, ReadsAll g vs ps as)
    (fun v r => by have e : v = .none := r.inv; subst e; exact ⟨_, .none⟩)
    (fun b v r => by have e : v = .bool b := r.inv; subst e; exact ⟨_, .bool _⟩)
    (fun i v r => by obtain ⟨_, rfl⟩ := r.inv; exact ⟨_, .int _ _⟩)
    (fun x v r => by obtain ⟨_, rfl⟩ := r.inv; exact ⟨_, .str _ _⟩)
    (fun _ ih v r => by obtain ⟨a, vs, e0, ⟨n, h⟩, r'⟩ := r.inv_tup; subst e0; obtain ⟨as, y⟩ := ih _ r'; exact ⟨_, .tuple h rfl rfl (by simpa using y)⟩)
    (fun _ ih v r => by obtain ⟨a, vs, e0, ⟨n, h⟩, r'⟩ := r.inv_lst; subst e0; obtain ⟨as, y⟩ := ih _ r'; exact ⟨_, .list h rfl rfl (by simpa using y)⟩)
    (fun vs r => by obtain rfl := r.inv_nil; exact ⟨_, .nil⟩)
    (fun _ _ ih1 ih2 vs r => by obtain ⟨v, vs', e0, x, y⟩ := r.inv_cons; subst e0; obtain ⟨a, ha⟩ := ih1 _ x; obtain ⟨c, hc⟩ := ih2 _ y; exact ⟨_, .cons ha hc⟩) q v r
theorem op_eqD {x y : D} {p q : PyData} {c : Bool} (d1 : DP x p) (d2 : DP y q) (h1 : p.canLay0 = true) (h2 : q.canLay0 = true) (hd : min p.depth q.depth ≤ 100) (e : p.eqv q = c) : Op2 W b (compareOp .Eq) x y (.bool c) := .mk fun A X s u v Q E cx r1 r2 h => by
  obtain ⟨as, a⟩ := d1.reads (r1.keep g_sub)
  obtain ⟨bs, a'⟩ := d2.reads (r2.keep g_sub)
  subst e
  exact SeqAt.compareEq_reads a a' h1 h2 (by have := cx.room.2; show _ < 9900; omega) (h _ _ _ Keep.rfl' (.bool _))
theorem op_neD {x y : D} {p q : PyData} {c : Bool} (d1 : DP x p) (d2 : DP y q) (h1 : p.canLay0 = true) (h2 : q.canLay0 = true) (hd : min p.depth q.depth ≤ 100) (e : (!p.eqv q) = c) : Op2 W b (compareOp .NotEq) x y (.bool c) := .mk fun A X s u v Q E cx r1 r2 h => by
  obtain ⟨as, a⟩ := d1.reads (r1.keep g_sub)
  obtain ⟨bs, a'⟩ := d2.reads (r2.keep g_sub)
  subst e
  exact SeqAt.compareNe_reads a a' h1 h2 (by have := cx.room.2; show _ < 9900; omega) (h _ _ _ Keep.rfl' (.bool _))
theorem op_inD {x : D} {ys : List D} {p : PyData} {qs : List PyData} {c : Bool} (d1 : DP x p) (d2 : DPs ys qs) (h1 : p.canLay0 = true) (h2 : PyData.canLayAll0 qs = true) (hd : min (PyData.depthAll qs) p.depth ≤ 100) (e : (qs.any fun y => y.eqv p) = c) :
    Op2 W b (compareOp .In) x (.tup ys) (.bool c) := .mk fun A X s u v Q E cx r1 r2 h => by
  obtain ⟨as, a⟩ := d1.reads (r1.keep g_sub)
  obtain ⟨bs, a'⟩ := (DP.tup d2).reads (r2.keep g_sub)
  subst e
  exact SeqAt.in_tuple_reads a' a h2 h1 (by have := cx.room.2; show _ < 9900; omega) (h _ _ _ Keep.rfl' (.bool _))
theorem op_notInD {x : D} {ys : List D} {p : PyData} {qs : List PyData} {c : Bool} (d1 : DP x p) (d2 : DPs ys qs) (h1 : p.canLay0 = true) (h2 : PyData.canLayAll0 qs = true) (hd : min (PyData.depthAll qs) p.depth ≤ 100) (e : (!qs.any fun y => y.eqv p) = c) :
    Op2 W b (compareOp .NotIn) x (.tup ys) (.bool c) := .mk fun A X s u v Q E cx r1 r2 h => by
  obtain ⟨as, a⟩ := d1.reads (r1.keep g_sub)
  obtain ⟨bs, a'⟩ := (DP.tup d2).reads (r2.keep g_sub)
  subst e
  exact SeqAt.notIn_tuple_reads a' a h2 h1 (by have := cx.room.2; show _ < 9900; omega) (h _ _ _ Keep.rfl' (.bool _))
end

/-- a built-in, called -/
structure CallV (W : Wd) (b : Nat) (f : Value) (ds : List D) (d : D) : Prop where
  go : ∀ (A : Around) (X : List Addr) (s : Shared) (vs : List Value) (Q E : Value → Shared → Prop), Cx W b A X s.heap → RVs W (G X s.heap) vs ds →
    (∀ v h' tk', Keep s.heap h' → RV W (G X h') v d → Q v { s with heap := h', toks := tk' }) → wpAny (model W.prog W.w) A (call f vs) Q E s

section
variable {W : Wd} {b : Nat}
theorem cv_len_lst {ds : List D} (hl : ds.length ≤ 1000) : CallV W b (.builtin "len") [.lst ds] (.int ds.length) := .mk fun A X s vs Q E c r h => by
  obtain ⟨_, _, e0, r1, r2⟩ := r.inv_cons
  subst e0
  obtain rfl := r2.inv_nil
  obtain ⟨_, _, e0, q, rs⟩ := r1.inv_lst
  subst e0
  refine len_list (q.keep g_sub).is (by simp only [List.size_toArray]; rw [rs.length]; omega) ?_
  simp only [List.size_toArray]
  rw [rs.length]
  exact h _ _ _ Keep.rfl' (.int _ _)
theorem cv_len_tup {ds : List D} (hl : ds.length ≤ 1000) : CallV W b (.builtin "len") [.tup ds] (.int ds.length) := .mk fun A X s vs Q E c r h => by
  obtain ⟨_, _, e0, r1, r2⟩ := r.inv_cons
  subst e0
  obtain rfl := r2.inv_nil
  obtain ⟨_, _, e0, q, rs⟩ := r1.inv_tup
  subst e0
  refine len_tuple (q.keep g_sub).is (by simp only [List.size_toArray]; rw [rs.length]; omega) ?_
  simp only [List.size_toArray]
  rw [rs.length]
  exact h _ _ _ Keep.rfl' (.int _ _)
theorem cv_abs {x : Int} : CallV W b (.builtin "abs") [.int x] (.int (if x < 0 then -x else x)) := .mk fun A X s vs Q E c r h => by
  cases r with
  | cons r1 r2 =>
    cases r2; cases r1
    exact call_abs_int fun u tk => h _ _ _ Keep.rfl' (.int _ _)
theorem cv_max {x y : Int} (hn : W.hn = true) : CallV W b (.builtin "max") [.int x, .int y] (.int (if y > x then y else x)) := .mk fun A X s vs Q E c r h => by
  cases r with
  | cons r1 r2 =>
    cases r1
    cases r2 with
    | cons r2 r3 =>
      cases r2; cases r3
      refine max_two_ints (c.hok.none hn) fun h' tk k => ?_
      by_cases q : y > x
      · simp only [if_pos q] at h ⊢; exact h _ _ _ k (.int _ _)
      · simp only [if_neg q] at h ⊢; exact h _ _ _ k (.int _ _)
theorem cv_list_lst {ds : List D} (hl : ds.length ≤ 1000) : CallV W b (.type "list") [.lst ds] (.lst ds) := .mk fun A X s vs Q E c r h => by
  obtain ⟨_, _, e0, r1, r2⟩ := r.inv_cons
  subst e0
  obtain rfl := r2.inv_nil
  obtain ⟨_, _, e0, q, rs⟩ := r1.inv_lst
  subst e0
  obtain ⟨n, e⟩ := q.keep g_sub
  exact call_list_seq (hsz := by simp only [List.size_toArray]; exact small_vs rs hl) _ (.inl rfl) e rfl rfl fun h' c' k e' => h _ _ _ k (.lst ⟨_, g_get e' (c.fresh (none_of_size _))⟩ (rs.keep (g_keep k)))
theorem cv_list_tup {ds : List D} (hl : ds.length ≤ 1000) : CallV W b (.type "list") [.tup ds] (.lst ds) := .mk fun A X s vs Q E c r h => by
  obtain ⟨_, _, e0, r1, r2⟩ := r.inv_cons
  subst e0
  obtain rfl := r2.inv_nil
  obtain ⟨_, _, e0, q, rs⟩ := r1.inv_tup
  subst e0
  obtain ⟨n, e⟩ := q.keep g_sub
  exact call_list_seq (hsz := by simp only [List.size_toArray]; exact small_vs rs hl) _ (.inr rfl) e rfl rfl fun h' c' k e' => h _ _ _ k (.lst ⟨_, g_get e' (c.fresh (none_of_size _))⟩ (rs.keep (g_keep k)))
theorem cv_tuple_lst {ds : List D} (hl : ds.length ≤ 1000) : CallV W b (.type "tuple") [.lst ds] (.tup ds) := .mk fun A X s vs Q E c r h => by
  obtain ⟨_, _, e0, r1, r2⟩ := r.inv_cons
  subst e0
  obtain rfl := r2.inv_nil
  obtain ⟨_, _, e0, q, rs⟩ := r1.inv_lst
  subst e0
  refine call_tuple_list (q.keep g_sub).is (fun h' k => h _ _ _ (fun b o e => Heap.get?_push_of_some _ (k b o e)) ?_) (by simp only [List.size_toArray]; exact small_vs rs hl)
  exact rv_newTup (rs.keep (g_keep k)) ((c.keep k).fresh (none_of_size _))

variable {sc : Scope} {σ : Env}
/-- a built-in's name -/
def Bi (W : Wd) (x : Str) (v : Value) : Prop := W.mg x = none ∧ x ≠ "__name__" ∧ bootBuiltins x = some v
theorem name_bi {x : Str} {v : Value} {p : Pos} {A : Around} {env : PySem.Env} {X : List Addr} {s : Shared} {Q E : Value → Shared → Prop} (n : Bi W x v) (hk : sc.names.lookup x = some .globalImplicit) (hd : (x == ("__debug__" : Str)) = false)
    (e : EnvOK W b sc A env σ X s.heap) (h : Q v s) : wpAny (model W.prog W.w) A (eval (.Name x p) env) Q E s := by
  obtain ⟨n1, n2, n3⟩ := n
  refine Name_function_global (by rw [e.scope]; exact e.kind) (by show env.scope.names.lookup x = _; rw [e.scope]; exact hk) (loadGlobal_builtin (mg := W.mg) (mb := W.mb) ?_ n1 ?_ ((e.top.bi x n1 n2).trans n3) h) hd
  · rw [e.glob]; exact e.top.gl.keeps g_sub
  · rw [e.bui]; exact e.top.bt.keeps g_sub

theorem ev_call_bi {x : Str} {id : String} {p pos : Pos} {a : Expr} {as : List Expr} {ds : List D} {d : D} (n : Bi W x (.builtin id)) (hk : sc.names.lookup x = some .globalImplicit) (hd : (x == ("__debug__" : Str)) = false)
    (h1 : Evs W b sc σ (a :: as) ds) (c : CallV W b (.builtin id) ds d) (hs : ∀ env, starEach (a :: as) env = (false, eval a env) :: starEach as env) (hp : ∀ env, (backTo pos (starEach as env)).any (·.1) = false) :
    Ev W b sc σ (.Call (.Name x p) (a :: as) [] pos) d := .mk fun A env X s Q E e h =>
  Call_ (name_bi n hk hd e (callWith_builtin1 (he := hs env) (hplain := hp env) (h1.go A env X s pos _ _ e fun vs h₁ t₁ k₁ r₁ => c.go A X _ vs _ _ (e.keep k₁).cx r₁ fun v h₂ t₂ k₂ r₂ => h v h₂ t₂ (k₁.trans k₂) r₂)))
theorem ev_call_ty {x : Str} {id : String} {p pos : Pos} {a : Expr} {as : List Expr} {ds : List D} {d : D} (n : Bi W x (.type id)) (hk : sc.names.lookup x = some .globalImplicit) (hd : (x == ("__debug__" : Str)) = false)
    (h1 : Evs W b sc σ (a :: as) ds) (c : CallV W b (.type id) ds d) (hs : ∀ env, starEach (a :: as) env = (false, eval a env) :: starEach as env) (hp : ∀ env, (backTo pos (starEach as env)).any (·.1) = false) :
    Ev W b sc σ (.Call (.Name x p) (a :: as) [] pos) d := .mk fun A env X s Q E e h =>
  Call_ (name_bi n hk hd e (callWith_type1 (he := hs env) (hplain := hp env) (h1.go A env X s pos _ _ e fun vs h₁ t₁ k₁ r₁ => c.go A X _ vs _ _ (e.keep k₁).cx r₁ fun v h₂ t₂ k₂ r₂ => h v h₂ t₂ (k₁.trans k₂) r₂)))

theorem ev_call {x : Str} {p pos : Pos} {a : Expr} {as : List Expr} {ds : List D} {d : D} {b' : Nat} (hk : sc.names.lookup x = some .globalImplicit) (hd : (x == ("__debug__" : Str)) = false)
    (h1 : Evs W b sc σ (a :: as) ds) (c : CallOK W b' x ds d) (hb : b' ≤ b) (hs : ∀ env, starEach (a :: as) env = (false, eval a env) :: starEach as env) :
    Ev W b sc σ (.Call (.Name x p) (a :: as) [] pos) d := .mk fun A env X s Q E e h => by
  obtain ⟨k, k1, k2, k3⟩ := c.isfn
  obtain ⟨f, cc, o, pm, doc, f1, f2, f3, f4⟩ := e.top.fn k k1 k2
  rw [k3] at f1
  refine Call_ (Name_function_global (by rw [e.scope]; exact e.kind) (by show env.scope.names.lookup x = _; rw [e.scope]; exact hk) (loadGlobal_global (mg := W.mg) ?_ f1 ?_) hd)
  · rw [e.glob]; exact e.top.gl.keeps g_sub
  · refine callWith_def f3 (he := hs env) (h1.go A env X s pos _ _ e fun vs h₁ t₁ k₁ r₁ => ⟨k₁ _ _ (g_sub _ _ f2), ?_⟩)
    exact c.go A X _ f vs _ _ f1 ((e.keep k₁).cx.less hb) r₁ fun v h₂ t₂ k₂ r₂ => h v h₂ t₂ (k₁.trans k₂) r₂
end
theorem entry_unchain : entryFor table "proto.unchain" = some Builtin.«proto.unchain» := entryFor_of_tree (by kernel_rfl)
section
variable {W : Wd}

theorem wpAny_updateField {M : Model} {A : Around} {s : Shared} {E : Value → Shared → Prop} {Q : Unit → Shared → Prop} {a : Addr} {i : Nat} {v : Value} {o : Obj} {vs : Array Value} (ho : s.heap.get? a = some o) (hd : o.data = .fields vs) (hi : i < vs.size)
    (h : Q () { s with heap := s.heap.update a (Obj.mapFields (·.setIfInBounds i v)) }) : wpAny M A (updateField a i v) Q E s := by
  unfold updateField
  refine wpAny_bind (wpAny_load ho ?_)
  rw [hd]
  show wpAny M A (if i < vs.size then update a (Obj.mapFields (·.setIfInBounds i v)) else _) Q E s
  rw [if_pos hi]
  exact wpAny_update ho h

theorem raiseNew_ok {α : Type} {A : Around} {s : Shared} {x : Addr} {o : Obj} {vs : Array Value} {Q : α → Shared → Prop} {E : Value → Shared → Prop} (hk : HOk W A s.heap) (hx : A.handled ≠ some (.ref x)) (ho : s.heap.get? x = some o) (hd : o.data = .fields vs) (hz : 2 < vs.size)
    (h : ∀ h' o', Chg [x] s.heap h' → h'.get? x = some o' → o'.cls = o.cls → E (.ref x) { s with heap := h' }) : wpAny (model W.prog W.w) A (raiseNew (.ref x) : Sem α) Q E s := by
  unfold raiseNew
  refine wpAny_bind (wpAny_handled ?_)
  rcases hk with hk | ⟨_, e, oe, es, hk, he, hde, h2⟩
  · rw [hk]
    exact wpAny_bind (wpAny_pure (wpAny_throw (h s.heap o (fun _ _ _ e => e) ho rfl)))
  · rw [hk]
    have hne : (Value.ref e != Value.ref x) = true := by
      rw [hk] at hx
      simpa using fun q => hx (by rw [q])
    show wpAny _ _ (if (Value.ref e != Value.ref x) = true then _ else _) _ _ s
    rw [if_pos hne]
    refine wpAny_bind ((wpAny_holding (wpAny_runValue (codeAny_builtin entry_unchain ?_))))
    show wpAny _ _ (field (.ref e) 2 >>= _) _ _ s
    refine wpAny_bind (wpAny_field he hde h2 ?_)
    show wpAny _ _ (if (Value.none == Value.none) = true then _ else _) _ _ s
    rw [if_pos (show (Value.none == Value.none) = true from by decide)]
    refine wpAny_pure ?_
    refine wpAny_bind (wpAny_updateField ho hd hz ?_)
    refine wpAny_throw (h _ _ (fun b ob hb eb => ?_) (Heap.get?_update_self _ ho (Obj.isFreed_of_fields (Obj.data_mapFields hd _))) (Obj.cls_mapFields ..))
    exact (Heap.get?_update_other _ _ (fun q => hb (by simp [q]))).trans eb

theorem newStop {A : Around} {s : Shared} {Q E : Value → Shared → Prop} (h : ∀ h' x o vs, Keep s.heap h' → s.heap.get? x = none → h'.get? x = some o → o.cls = .type "StopIteration" → o.data = .fields vs → 2 < vs.size → Q (.ref x) { s with heap := h' }) :
    wpAny (model W.prog W.w) A (newExc (.type "StopIteration") []) Q E s := by
  simp only [newExc, newTuple]
  refine wpAny_bind (wpAny_newObj_type ?_ (by size_fits))
  refine wpAny_bind (m := firstArgMember _ _) (wpAny_of_eq (a := Value.none) (by first | rfl | (simp only [firstArgMember]; rfl)) ?_)
  refine wpAny_newObj_type ?_ (by size_fits)
  exact h _ _ _ _ (fun _ _ e => Heap.get?_push_of_some _ (Heap.get?_push_of_some _ e)) (Heap.get?_none_of_le (by simp)) (Heap.get?_push_size _ rfl) rfl rfl (by simp; omega)

/-- the end of an iterator: StopIteration is raised, and seen -/
theorem stopIt {α : Type} {A : Around} {s : Shared} {Q : α → Shared → Prop} {E : Value → Shared → Prop} {g : Heap} (hk : HOk W A g) (kg : Keep g s.heap) (h : ∀ x h' o, Keep s.heap h' → h'.get? x = some o → o.cls = .type "StopIteration" → E (.ref x) { s with heap := h' }) :
    wpAny (model W.prog W.w) A (newExc (.type "StopIteration") [] >>= fun e => (raiseNew e : Sem α)) Q E s := by
  refine wpAny_bind (newStop fun h' x o vs k n ho hc hd hz => ?_)
  have hk' : HOk W A h' := hk.keep (kg.trans k)
  refine raiseNew_ok hk' ?_ ho hd hz fun h'' o' c ho' hc' => h x h'' o' (fun b ob eb => c b ob (fun q => ?_) (k b ob eb)) ho' (hc'.trans hc)
  · rcases hk with q | ⟨_, e, oe, es, q, he, _⟩
    · rw [q]; exact fun z => nomatch z
    · rw [q]
      intro z
      have : e = x := by injection z with z; injection z
      subst this
      have := kg _ _ he
      rw [n] at this; cases this
  · simp at q; subst q; rw [n] at eb; cases eb

theorem isStop {A : Around} {s : Shared} {x : Addr} {o : Obj} {Q : Bool → Shared → Prop} {E : Value → Shared → Prop} (ho : s.heap.get? x = some o) (hc : o.cls = .type "StopIteration") (h : Q true s) : wpAny (model W.prog W.w) A (isInstance (.ref x) (.type "StopIteration")) Q E s :=
  wpAny_isInstance (T := "StopIteration") (b := true) ⟨_, ho, hc⟩ isSubtype_stop h

theorem next_list_end {A : Around} {s : Shared} {it l : Addr} {i : Nat} {items : Array Value} {Q : Option Value → Shared → Prop} {E : Value → Shared → Prop} {g : Heap} (hk : HOk W A g) (kg : Keep g s.heap) (gi : g.get? it = none)
    (hit : s.heap.IsListIter it l i) (hl : s.heap.IsList l items) (hx : items[i]? = none) (hQ : ∀ h', Chg [it] s.heap h' → (∃ o, h'.get? it = some o) → Q none { s with heap := h' }) : wpAny (model W.prog W.w) A (pyNext (.ref it)) Q E s := by
  obtain ⟨o, ho, hc, hd⟩ := id hit
  obtain ⟨ol, hol, _, nl, hdl⟩ := hl
  unfold pyNext
  refine wpAny_bind (wpAny_attempt (wpAny_callSpecial?_slot (name := Str.ofString "__next__") hit.typeIs slot_listiter_next
    (wpAny_call_entry slot_listiter_next hit.typeIs entry_listiter_next ?_ (args_listiter_next _))))
  show wpAny _ _ (field (.ref it) 0 >>= _) _ _ s
  refine wpAny_bind (wpAny_field ho hd (x := .ref l) rfl ?_)
  show wpAny _ _ (if (Value.ref l == Value.none) = true then _ else _) _ _ s
  rw [if_neg (show ¬ ((Value.ref l == Value.none) = true) from Bool.false_ne_true)]
  show wpAny _ _ (field (.ref it) 1 >>= _) _ _ s
  refine wpAny_bind (wpAny_field ho hd (x := .int i 0) rfl ?_)
  show wpAny _ _ (seqItems? (.ref l) >>= _) _ _ s
  refine wpAny_bind (wpAny_seqItems hol hdl ?_)
  simp only [Int.toNat_natCast, hx]
  refine wpAny_bind (wpAny_rule (wpAny_bind (wpAny_setField ho hd (by simp) ?_)))
  show wpAny _ _ (newExc (.type "StopIteration") [] >>= _) _ _ _
  refine stopIt (A := A.in1) (g := g) hk (fun b ob eb => ?_) fun x h' o' k ho' hc' => ?_
  · exact (Heap.get?_update_other _ _ (fun q => by rw [← q, gi] at eb; cases eb)).trans (kg b ob eb)
  · refine wpAny_bind (isStop ho' hc' ?_)
    exact wpAny_pure (hQ h' (fun b ob hb eb => k b ob ((Heap.get?_update_other _ _ (fun q => hb (by simp [q]))).trans eb)) ⟨_, k _ _ (Heap.get?_update_self _ ho (Obj.isFreed_of_fields (Obj.data_mapFields hd _)))⟩)
theorem next_tuple_end {A : Around} {s : Shared} {it l : Addr} {i : Nat} {items : Array Value} {Q : Option Value → Shared → Prop} {E : Value → Shared → Prop} {g : Heap} (hk : HOk W A g) (kg : Keep g s.heap) (gi : g.get? it = none)
    (hit : s.heap.IsTupleIter it l i) (hl : s.heap.IsTuple l items) (hx : items[i]? = none) (hQ : ∀ h', Chg [it] s.heap h' → (∃ o, h'.get? it = some o) → Q none { s with heap := h' }) : wpAny (model W.prog W.w) A (pyNext (.ref it)) Q E s := by
  obtain ⟨o, ho, hc, hd⟩ := id hit
  obtain ⟨ol, hol, _, nl, hdl⟩ := hl
  unfold pyNext
  refine wpAny_bind (wpAny_attempt (wpAny_callSpecial?_slot (name := Str.ofString "__next__") hit.typeIs F.slot_tuple_iterator_next
    (wpAny_call_entry F.slot_tuple_iterator_next hit.typeIs F.entry_tuple_iterator_next ?_ (F.args_tuple_iterator_next_1 _))))
  show wpAny _ _ (field (.ref it) 0 >>= _) _ _ s
  refine wpAny_bind (wpAny_field ho hd (x := .ref l) rfl ?_)
  show wpAny _ _ (if (Value.ref l == Value.none) = true then _ else _) _ _ s
  rw [if_neg (show ¬ ((Value.ref l == Value.none) = true) from Bool.false_ne_true)]
  show wpAny _ _ (field (.ref it) 1 >>= _) _ _ s
  refine wpAny_bind (wpAny_field ho hd (x := .int i 0) rfl ?_)
  show wpAny _ _ (seqItems? (.ref l) >>= _) _ _ s
  refine wpAny_bind (wpAny_seqItems hol hdl ?_)
  simp only [Int.toNat_natCast, hx]
  refine wpAny_bind (wpAny_rule (wpAny_bind (wpAny_setField ho hd (by simp) ?_)))
  show wpAny _ _ (newExc (.type "StopIteration") [] >>= _) _ _ _
  refine stopIt (A := A.in1) (g := g) hk (fun b ob eb => ?_) fun x h' o' k ho' hc' => ?_
  · exact (Heap.get?_update_other _ _ (fun q => by rw [← q, gi] at eb; cases eb)).trans (kg b ob eb)
  · refine wpAny_bind (isStop ho' hc' ?_)
    exact wpAny_pure (hQ h' (fun b ob hb eb => k b ob ((Heap.get?_update_other _ _ (fun q => hb (by simp [q]))).trans eb)) ⟨_, k _ _ (Heap.get?_update_self _ ho (Obj.isFreed_of_fields (Obj.data_mapFields hd _)))⟩)

theorem next_range_end {A : Around} {s : Shared} {it : Addr} {x left step : Int} {Q : Option Value → Shared → Prop} {E : Value → Shared → Prop} {g : Heap} (hk : HOk W A g) (kg : Keep g s.heap)
    (hit : IsRangeIter s.heap it x left step) (hleft : left ≤ 0) (hQ : ∀ h', Chg [it] s.heap h' → (∃ o, h'.get? it = some o) → Q none { s with heap := h' }) : wpAny (model W.prog W.w) A (pyNext (.ref it)) Q E s := by
  have hT : s.TypeIs (.ref it) "range_iterator" := ⟨_, hit, rfl⟩
  unfold pyNext
  refine wpAny_bind (wpAny_attempt (wpAny_callSpecial?_slot (name := Str.ofString "__next__") hT F.slot_range_iterator_next
    (wpAny_call_entry F.slot_range_iterator_next hT F.entry_range_iterator_next ?_ (F.args_range_iterator_next_1 _))))
  show wpAny _ _ (field (.ref it) 0 >>= _) _ _ s
  refine wpAny_bind (wpAny_field hit rfl (x := rawInt x) rfl ?_)
  show wpAny _ _ (field (.ref it) 1 >>= _) _ _ s
  refine wpAny_bind (wpAny_field hit rfl (x := rawInt left) rfl ?_)
  show wpAny _ _ (field (.ref it) 2 >>= _) _ _ s
  refine wpAny_bind (wpAny_field hit rfl (x := rawInt step) rfl ?_)
  show wpAny _ _ (if left ≤ 0 then _ else _) _ _ s
  rw [if_pos hleft]
  refine wpAny_bind (wpAny_rule ?_)
  refine wpAny_bind ?_
  show wpAny _ _ (newExc (.type "StopIteration") [] >>= _) _ _ _
  refine stopIt (A := A.in1) (g := g) hk kg fun y h' o' k ho' hc' => ?_
  refine wpAny_bind (isStop ho' hc' ?_)
  exact wpAny_pure (hQ h' (fun b ob hb eb => k b ob eb) ⟨_, k _ _ hit⟩)

theorem next_key_end {K : Type} [DecidableEq K] {knd : KeyKind W.prog W.w K} {A : Around} {s : Shared} {it d : Addr} {i ep : Nat} {kvs : List (K × Value)} {Q : Option Value → Shared → Prop} {E : Value → Shared → Prop} {g : Heap} (hk : HOk W A g) (kg : Keep g s.heap) (gi : g.get? it = none)
    (hit : s.heap.IsKeyIter it d i kvs.length ep) (hm : s.heap.DictAt knd d kvs ep) (hx : kvs[i]? = none) (hQ : ∀ h', Chg [it] s.heap h' → (∃ o, h'.get? it = some o) → Q none { s with heap := h' }) : wpAny (model W.prog W.w) A (pyNext (.ref it)) Q E s := by
  obtain ⟨o, ho, hc, hd⟩ := id hit
  obtain ⟨od, es, hod, hcd, hdd, hkk, hp, hn⟩ := id hm
  unfold pyNext
  refine wpAny_bind (wpAny_attempt (wpAny_callSpecial?_slot (name := Str.ofString "__next__") hit.typeIs F.slot_dict_keyiterator_next
    (wpAny_call_entry F.slot_dict_keyiterator_next hit.typeIs F.entry_dict_keyiterator_next ?_ (F.args_dict_keyiterator_next_1 _))))
  refine wpAny_bind (wpAny_pure ?_)
  refine wpAny_bind ?_
  refine wpAny_bind ?_
  first | refine wpAny_bind (wpAny_typeNameOfWhole_keyiter hit.typeIs (wpAny_pure ?_)) | refine wpAny_bind (wpAny_typeNameOf_keyiter hit.typeIs (wpAny_pure ?_))
  refine wpAny_bind (wpAny_fieldsOf ho hd ?_)
  have hown : Builtin.Dict_items.ownsTuple "dict_keyiterator" = false := by decide
  simp only [hown, Bool.false_eq_true, if_false]
  show wpAny _ _ (if (Value.ref d == Value.none) = true then _ else _) _ _ s
  rw [if_neg (show ¬ ((Value.ref d == Value.none) = true) from Bool.false_ne_true)]
  refine wpAny_bind (wpAny_pure ?_)
  refine wpAny_bind (wpAny_dictEntries hod hdd ?_)
  have hsz : es.size = kvs.length := by rw [← hp.length]; simp
  rw [if_neg (by rw [hsz]; simp)]
  refine wpAny_bind (wpAny_pure ?_)
  refine wpAny_bind (wpAny_dictEpoch hod hdd ?_)
  rw [if_neg (by simp)]
  refine wpAny_pure ?_
  have hge : es.size ≤ i := by rw [hsz]; simpa using hx
  simp only [show ¬ ((i : Int) < 0) from by omega, if_false, Int.toNat_natCast, Array.getElem?_eq_none hge]
  refine wpAny_bind ?_
  first | refine wpAny_bind (wpAny_typeNameOfWhole_keyiter hit.typeIs (wpAny_pure ?_)) | refine wpAny_bind (wpAny_typeNameOf_keyiter hit.typeIs (wpAny_pure ?_))
  show wpAny _ _ (setField (.ref it) 0 .none >>= _) _ _ s
  refine wpAny_bind (wpAny_setField ho hd (by simp) ?_)
  show wpAny _ _ (newExc (.type "StopIteration") [] >>= _) _ _ _
  refine stopIt (A := A.in1) (g := g) hk (fun b ob eb => ?_) fun x h' o' k ho' hc' => ?_
  · exact (Heap.get?_update_other _ _ (fun q => by rw [← q, gi] at eb; cases eb)).trans (kg b ob eb)
  · refine wpAny_bind (isStop ho' hc' ?_)
    exact wpAny_pure (hQ h' (fun b ob hb eb => k b ob ((Heap.get?_update_other _ _ (fun q => hb (by simp [q]))).trans eb)) ⟨_, k _ _ (Heap.get?_update_self _ ho (Obj.isFreed_of_fields (Obj.data_mapFields hd _)))⟩)

theorem next_items_end {K : Type} [DecidableEq K] {knd : KeyKind W.prog W.w K} {A : Around} {s : Shared} {it d : Addr} {i ep : Nat} {kvs : List (K × Value)} {ok ov : Value} {Q : Option Value → Shared → Prop} {E : Value → Shared → Prop} {g : Heap} (hk : HOk W A g) (kg : Keep g s.heap) (gi : g.get? it = none)
    (hit : IsItemIter s.heap it d i kvs.length ep ok ov) (hm : s.heap.DictAt knd d kvs ep) (hx : kvs[i]? = none) (hQ : ∀ h', Chg [it] s.heap h' → (∃ o, h'.get? it = some o) → Q none { s with heap := h' }) : wpAny (model W.prog W.w) A (pyNext (.ref it)) Q E s := by
  obtain ⟨od, es, hod, hcd, hdd, hkk, hpr, hn⟩ := id hm
  have hT : s.TypeIs (.ref it) "dict_itemiterator" := ⟨_, hit, rfl⟩
  unfold pyNext
  refine wpAny_bind (wpAny_attempt (wpAny_callSpecial?_slot (name := Str.ofString "__next__") hT F.slot_dict_itemiterator_next
    (wpAny_call_entry F.slot_dict_itemiterator_next hT F.entry_dict_itemiterator_next ?_ (F.args_dict_itemiterator_next_1 _))))
  refine wpAny_bind (wpAny_pure ?_)
  refine wpAny_bind ?_
  refine wpAny_bind ?_
  first | refine wpAny_bind (wpAny_typeNameOfWhole_itemiter hT (wpAny_pure ?_)) | refine wpAny_bind (wpAny_typeNameOf_itemiter hT (wpAny_pure ?_))
  refine wpAny_bind (wpAny_fieldsOf hit rfl ?_)
  have hown : Builtin.Dict_items.ownsTuple "dict_itemiterator" = true := by decide
  simp only [hown, if_true]
  show wpAny _ _ (if (Value.ref d == Value.none) = true then _ else _) _ _ s
  rw [if_neg (show ¬ ((Value.ref d == Value.none) = true) from Bool.false_ne_true)]
  refine wpAny_bind (wpAny_pure ?_)
  refine wpAny_bind (wpAny_dictEntries hod hdd ?_)
  have hsz : es.size = kvs.length := by rw [← hpr.length]; simp
  rw [if_neg (by rw [hsz]; simp)]
  refine wpAny_bind (wpAny_pure ?_)
  refine wpAny_bind (wpAny_dictEpoch hod hdd ?_)
  rw [if_neg (by simp)]
  refine wpAny_pure ?_
  have hge : es.size ≤ i := by rw [hsz]; simpa using hx
  simp only [show ¬ ((i : Int) < 0) from by omega, if_false, Int.toNat_natCast, Array.getElem?_eq_none hge]
  refine wpAny_bind ?_
  first | refine wpAny_bind (wpAny_typeNameOfWhole_itemiter hT (wpAny_pure ?_)) | refine wpAny_bind (wpAny_typeNameOf_itemiter hT (wpAny_pure ?_))
  show wpAny _ _ (setField (.ref it) 2 .none >>= _) _ _ s
  refine wpAny_bind (wpAny_setField hit rfl (by simp) ?_)
  show wpAny _ _ (newExc (.type "StopIteration") [] >>= _) _ _ _
  refine stopIt (A := A.in1) (g := g) hk (fun b ob eb => ?_) fun x h' o' k ho' hc' => ?_
  · exact (Heap.get?_update_other _ _ (fun q => by rw [← q, gi] at eb; cases eb)).trans (kg b ob eb)
  · refine wpAny_bind (isStop ho' hc' ?_)
    exact wpAny_pure (hQ h' (fun b ob hb eb => k b ob ((Heap.get?_update_other _ _ (fun q => hb (by simp [q]))).trans eb)) ⟨_, k _ _ (Heap.get?_update_self _ hit (Obj.isFreed_of_fields (Obj.data_mapFields rfl _)))⟩)

/-- an iterator over data: P i stands where i items are taken -/
structure IterOK (W : Wd) (A : Around) (X : List Addr) (h0 : Heap) (I : Addr) (ds : List D) (P : Nat → Heap → Prop) : Prop where
  frame : ∀ i h h' Y, Chg Y h h' → (∀ y ∈ Y, y ∈ X ∨ (h0.get? y = none ∧ y ≠ I)) → P i h → P i h'
  has : ∀ i h, P i h → ∃ o, h.get? I = some o
  self : ∀ i (s : Shared) (Q E : Value → Shared → Prop), P i s.heap → Q (.ref I) s → wpAny (model W.prog W.w) A (pyIter (.ref I)) Q E s
  next : ∀ i d, ds[i]? = some d → ∀ (s : Shared) (Q : Option Value → Shared → Prop) (E : Value → Shared → Prop), P i s.heap →
    (∀ v h' tk', P (i + 1) h' → Chg [I] s.heap h' → RV W (G X h0) v d → Q (some v) { s with heap := h', toks := tk' }) → wpAny (model W.prog W.w) A (pyNext (.ref I)) Q E s
  stop : ∀ (s : Shared) (Q : Option Value → Shared → Prop) (E : Value → Shared → Prop), P ds.length s.heap → Keep (G X h0) s.heap → (∀ h' tk', Chg [I] s.heap h' → (∃ o, h'.get? I = some o) → Q none { s with heap := h', toks := tk' }) → wpAny (model W.prog W.w) A (pyNext (.ref I)) Q E s

structure Itr (W : Wd) (b : Nat) (d : D) (ds : List D) : Prop where
  go : ∀ (A : Around) (X : List Addr) (s : Shared) (v : Value) (Q E : Value → Shared → Prop), Cx W b A X s.heap → RV W (G X s.heap) v d →
    (∀ I P h' tk', s.heap.get? I = none → Keep s.heap h' → P 0 h' → IterOK W A X s.heap I ds P → Q (.ref I) { s with heap := h', toks := tk' }) → wpAny (model W.prog W.w) A (pyIter v) Q E s

theorem gNone {X : List Addr} {h : Heap} {a : Addr} (n : h.get? a = none) : (G X h).get? a = none := by
  cases e : (G X h).get? a with
  | none => rfl
  | some o => have := g_sub _ _ e; rw [n] at this; cases this

theorem RVs.at_none {g : Heap} {vs : List Value} {ds : List D} (r : RVs W g vs ds) : vs.toArray[ds.length]? = none := by
  rw [← r.length]; simp

theorem itr_lst {b : Nat} {ds : List D} : Itr W b (.lst ds) ds := .mk fun A X s v Q E c r h => by
  obtain ⟨l, vs, e0, q, rs⟩ := r.inv_lst
  subst e0
  ·
    have ql := (q.keep g_sub).is
    refine wpAny_pyIter_list ql ?_
    have nf : s.heap.get? s.heap.objs.size = none := none_of_size _
    have lx : l ∉ X := let ⟨n, e⟩ := q; g_not e
    obtain ⟨n0, e0⟩ := q.keep g_sub
    refine h _ (fun i h => h.IsListIter s.heap.objs.size l i ∧ LstX h l vs) _ _ nf (fun _ _ e => Heap.get?_push_of_some _ e) ⟨⟨_, Heap.get?_push_size _ rfl, rfl, rfl⟩, ⟨n0, Heap.get?_push_of_some _ e0⟩⟩ ⟨?_, ?_, ?_, ?_, ?_⟩
    · rintro i h h' Y k hy ⟨⟨o, ho, r1⟩, ⟨n, hl⟩⟩
      refine ⟨⟨o, k _ _ (fun z => ?_) ho, r1⟩, ⟨n, k _ _ (fun z => ?_) hl⟩⟩
      · rcases hy _ z with z | ⟨_, z⟩
        · exact c.fresh nf z
        · exact z rfl
      · rcases hy _ z with z | ⟨z, _⟩
        · exact lx z
        · rw [e0] at z; cases z
    · rintro i h ⟨⟨o, ho, _⟩, _⟩; exact ⟨o, ho⟩
    · rintro i s' Q' E' ⟨hi, _⟩ h'; exact wpAny_pyIter_listiter hi h'
    · rintro i d hd s' Q' E' ⟨hi, hl⟩ h'
      obtain ⟨z, hz, rz⟩ := rs.get hd
      refine wpAny_pyNext_list_item hi hl.is (by simpa using hz) fun h₁ hi₁ hs₁ => h' z h₁ s'.toks ⟨hi₁, ?_⟩ (fun b o hb e => hs₁.extBut b o (by simpa using hb) e) rz
      obtain ⟨n, e⟩ := hl
      exact ⟨n, hs₁.extBut _ _ (fun z => by subst z; rw [nf] at e0; cases e0) e⟩
    · rintro s' Q' E' ⟨hi, hl⟩ kg h'
      exact next_list_end c.hok kg (gNone nf) hi hl.is rs.at_none fun h₁ k q => h' h₁ s'.toks k q

theorem itr_tup {b : Nat} {ds : List D} : Itr W b (.tup ds) ds := .mk fun A X s v Q E c r h => by
  obtain ⟨l, vs, e0, q, rs⟩ := r.inv_tup
  subst e0
  ·
    have ql := (q.keep g_sub).is
    refine wpAny_pyIter_tuple ql ?_
    have nf : s.heap.get? s.heap.objs.size = none := none_of_size _
    have lx : l ∉ X := let ⟨n, e⟩ := q; g_not e
    obtain ⟨n0, e0⟩ := q.keep g_sub
    refine h _ (fun i h => h.IsTupleIter s.heap.objs.size l i ∧ TupX h l vs) _ _ nf (fun _ _ e => Heap.get?_push_of_some _ e) ⟨⟨_, Heap.get?_push_size _ rfl, rfl, rfl⟩, ⟨n0, Heap.get?_push_of_some _ e0⟩⟩ ⟨?_, ?_, ?_, ?_, ?_⟩
    · rintro i h h' Y k hy ⟨⟨o, ho, r1⟩, ⟨n, hl⟩⟩
      refine ⟨⟨o, k _ _ (fun z => ?_) ho, r1⟩, ⟨n, k _ _ (fun z => ?_) hl⟩⟩
      · rcases hy _ z with z | ⟨_, z⟩
        · exact c.fresh nf z
        · exact z rfl
      · rcases hy _ z with z | ⟨z, _⟩
        · exact lx z
        · rw [e0] at z; cases z
    · rintro i h ⟨⟨o, ho, _⟩, _⟩; exact ⟨o, ho⟩
    · rintro i s' Q' E' ⟨hi, _⟩ h'; exact wpAny_pyIter_tupleiter hi h'
    · rintro i d hd s' Q' E' ⟨hi, hl⟩ h'
      obtain ⟨z, hz, rz⟩ := rs.get hd
      refine wpAny_pyNext_tuple_item hi hl.is (by simpa using hz) fun h₁ hi₁ hs₁ => h' z h₁ s'.toks ⟨hi₁, ?_⟩ (fun b o hb e => hs₁.extBut b o (by simpa using hb) e) rz
      obtain ⟨n, e⟩ := hl
      exact ⟨n, hs₁.extBut _ _ (fun z => by subst z; rw [nf] at e0; cases e0) e⟩
    · rintro s' Q' E' ⟨hi, hl⟩ kg h'
      exact next_tuple_end c.hok kg (gNone nf) hi hl.is rs.at_none fun h₁ k q => h' h₁ s'.toks k q

def ranged : Nat → Int → List D
  | 0, _ => []
  | n + 1, a => .int a :: ranged n (a + 1)
theorem ranged_length : ∀ (n : Nat) (a : Int), (ranged n a).length = n
  | 0, _ => rfl
  | n + 1, a => congrArg (· + 1) (ranged_length n (a + 1))
theorem ranged_get : ∀ (n : Nat) (a : Int) (i : Nat) (d : D), (ranged n a)[i]? = some d → i < n ∧ d = .int (a + i)
  | 0, _, _, _, h => by simp [ranged] at h
  | n + 1, a, 0, d, h => by simp [ranged] at h; exact ⟨Nat.succ_pos _, by rw [← h]; simp⟩
  | n + 1, a, i + 1, d, h => by
    simp only [ranged, List.getElem?_cons_succ] at h
    obtain ⟨h1, h2⟩ := ranged_get n (a + 1) i d h
    exact ⟨Nat.succ_lt_succ h1, by rw [h2]; congr 1; push_cast; omega⟩

theorem itr_rng {b : Nat} {x y : Int} (hx : -(2 ^ 62) ≤ x) (hx' : x < 2 ^ 62) (hy : -(2 ^ 62) ≤ y) (hy' : y < 2 ^ 62) : Itr W b (.rng x y) (ranged (y - x).toNat x) := .mk fun A X s v Q E c r h => by
  cases r with
  | @rng r _ _ t u w q =>
    have q' := g_sub _ _ q
    refine wpAny_pyIter_range q' (small_one hx hx' hy hy') ?_
    have nf : s.heap.get? s.heap.objs.size = none := none_of_size _
    have hsz : Builtin.Range.rangeSize x y 1 = ((y - x).toNat : Int) := by rw [rangeSize_one]; split <;> omega
    rw [hsz]
    refine h _ (fun i h => IsRangeIter h s.heap.objs.size (x + i) (((y - x).toNat : Int) - i) 1) _ _ nf (fun _ _ e => Heap.get?_push_of_some _ e) ?_ ⟨?_, ?_, ?_, ?_, ?_⟩
    · simpa using Heap.get?_push_size (o := ({ cls := .type "range_iterator", data := .fields #[rawInt x, rawInt ((y - x).toNat : Int), rawInt 1] } : Obj)) s.heap rfl
    · intro i h h' Y k hy hi
      refine k _ _ (fun z => ?_) hi
      rcases hy _ z with z | ⟨_, z⟩
      · exact c.fresh nf z
      · exact z rfl
    · intro i h hi; exact ⟨_, hi⟩
    · intro i s' Q' E' hi h'; exact wpAny_pyIter_rangeiter hi h'
    · intro i d hd s' Q' E' hi h'
      obtain ⟨h1, rfl⟩ := ranged_get _ _ _ _ hd
      refine wpAny_pyNext_range_item hi (by omega) fun h₁ hi₁ hs₁ => h' _ h₁ _ ?_ (fun b o hb e => hs₁.extBut b o (by simpa using hb) e) (.int _ _)
      have e1 : x + (i : Int) + 1 = x + ((i + 1 : Nat) : Int) := by push_cast; omega
      have e2 : ((y - x).toNat : Int) - i - 1 = ((y - x).toNat : Int) - ((i + 1 : Nat) : Int) := by push_cast; omega
      rw [e1, e2] at hi₁
      exact hi₁
    · intro s' Q' E' hi kg h'
      rw [ranged_length] at hi
      exact next_range_end c.hok kg hi (by omega) fun h₁ k q => h' h₁ s'.toks k q

theorem itr_dct {b : Nat} {k : Str} {d : D} : Itr W b (.dct k d) [.str k] := .mk fun A X s v Q E c r h => by
  cases r with
  | @dct l _ v _ ep hs q rs =>
    have ql := q.keep g_sub
    refine wpAny_pyIter_dict hs ql ?_
    have nf : s.heap.get? s.heap.objs.size = none := none_of_size _
    have lx : l ∉ X := by obtain ⟨o, es, ho, _⟩ := q; exact g_not ho
    have le : ∃ o, s.heap.get? l = some o := by obtain ⟨o, es, ho, _⟩ := ql; exact ⟨o, ho⟩
    refine h _ (fun i h => h.IsKeyIter s.heap.objs.size l i 1 ep ∧ h.DictAt (strKind W.prog W.w) l [(k, v)] ep) _ _ nf (fun _ _ e => Heap.get?_push_of_some _ e) ⟨⟨_, Heap.get?_push_size _ rfl, rfl, rfl⟩, ql.push _⟩ ⟨?_, ?_, ?_, ?_, ?_⟩
    · rintro i h h' Y k hy ⟨⟨o, ho, r1⟩, hd⟩
      refine ⟨⟨o, k _ _ (fun z => ?_) ho, r1⟩, ?_⟩
      · rcases hy _ z with z | ⟨_, z⟩
        · exact c.fresh nf z
        · exact z rfl
      · obtain ⟨o2, es, ho2, r2⟩ := hd
        refine ⟨o2, es, k _ _ (fun z => ?_) ho2, r2⟩
        rcases hy _ z with z | ⟨z, _⟩
        · exact lx z
        · obtain ⟨o3, e3⟩ := le; rw [e3] at z; cases z
    · rintro i h ⟨⟨o, ho, _⟩, _⟩; exact ⟨o, ho⟩
    · rintro i s' Q' E' ⟨hi, _⟩ h'; exact wpAny_pyIter_keyiter hi h'
    · rintro i d' hd s' Q' E' ⟨hi, hl⟩ h'
      have hi0 : i = 0 := by
        rcases i with _ | i
        · rfl
        · simp at hd
      subst hi0
      simp at hd
      subst hd
      refine wpAny_pyNext_dict_item (knd := strKind W.prog W.w) (kvs := [(k, v)]) (k := k) (v := v) hi hl rfl fun key h₁ hk hi₁ hs₁ => ?_
      obtain ⟨t, rfl⟩ := Value.isStrOf_shape hk
      refine h' _ h₁ s'.toks ⟨hi₁, ?_⟩ (fun b o hb e => hs₁.extBut b o (by simpa using hb) e) (.str _ _)
      exact hl.extBut hs₁.extBut fun z => by subst z; obtain ⟨o3, e3⟩ := le; rw [nf] at e3; cases e3
    · rintro s' Q' E' ⟨hi, hl⟩ kg h'
      exact next_key_end (knd := strKind W.prog W.w) (kvs := [(k, v)]) c.hok kg (gNone nf) hi hl rfl fun h₁ k q => h' h₁ s'.toks k q

theorem itr_ems {b : Nat} : Itr W b .ems [] := .mk fun A X s v Q E c r h => by
  cases r with
  | @ems v l ep hs qv q =>
    have ql := q.keep g_sub
    have qv' : s.heap.IsItemsView v l := let ⟨o, ho, r⟩ := qv; ⟨o, g_sub _ _ ho, r⟩
    refine wpAny_pyIter_items qv' ql ?_
    have nf : s.heap.get? s.heap.objs.size = none := none_of_size _
    have lx : l ∉ X := by obtain ⟨o, es, ho, _⟩ := q; exact g_not ho
    have le : ∃ o, s.heap.get? l = some o := by obtain ⟨o, es, ho, _⟩ := ql; exact ⟨o, ho⟩
    refine h _ (fun i h => IsItemIter h s.heap.objs.size l i 0 ep .none .none ∧ h.DictAt (strKind W.prog W.w) l [] ep) _ _ nf (fun _ _ e => Heap.get?_push_of_some _ e) ⟨Heap.get?_push_size _ rfl, ql.push _⟩ ⟨?_, ?_, ?_, ?_, ?_⟩
    · rintro i h h' Y k hy ⟨ho, hd⟩
      refine ⟨k _ _ (fun z => ?_) ho, ?_⟩
      · rcases hy _ z with z | ⟨_, z⟩
        · exact c.fresh nf z
        · exact z rfl
      · obtain ⟨o2, es, ho2, r2⟩ := hd
        refine ⟨o2, es, k _ _ (fun z => ?_) ho2, r2⟩
        rcases hy _ z with z | ⟨z, _⟩
        · exact lx z
        · obtain ⟨o3, e3⟩ := le; rw [e3] at z; cases z
    · rintro i h ⟨ho, _⟩; exact ⟨_, ho⟩
    · rintro i s' Q' E' ⟨hi, _⟩ h'; exact kcp_self hi h'
    · rintro i d' hd; simp at hd
    · rintro s' Q' E' ⟨hi, hl⟩ kg h'
      exact next_items_end (knd := strKind W.prog W.w) (kvs := []) c.hok kg (gNone nf) hi hl rfl fun h₁ k q => h' h₁ s'.toks k q
end
section
variable {W : Wd} {b : Nat} {sc : Scope} {σ : Env}

theorem kind_blk {sc : Scope} (hk : sc.kind = .function) (L g : Addr) : (sc.kind == .class || (sc.kind == .module && L != g)) = false := by rw [hk]; rfl

theorem store_ok {A : Around} {env : PySem.Env} {X : List Addr} {s : Shared} {x : Str} {v : Value} {d : D} {Q : Unit → Shared → Prop} {E : Value → Shared → Prop} (e : EnvOK W b sc A env σ X s.heap) (r : RV W (G X s.heap) v d) (hl : sc.names.lookup x = some .local)
    (h : ∀ h' tk', Chg [env.locals] s.heap h' → EnvOK W b sc A env ((x, d) :: σ) X h' → Q () { s with heap := h', toks := tk' }) : wpAny (model W.prog W.w) A (storeName env x v) Q E s := by
  obtain ⟨m, n, l⟩ := e.loc
  have hk : env.kindOf x = some .local := by show env.scope.names.lookup x = _; rw [e.scope]; exact hl
  refine wpAny_storeName_local hk n (fun h' hn hs => ?_) (by rw [e.scope]; exact kind_blk e.kind _ _)
  have ch : Chg [env.locals] s.heap h' := fun b o hb eb => hs.extBut b o (by simpa using hb) eb
  have cx : Chg X s.heap h' := ch.mono fun b q => by simp at q; subst q; exact e.inX
  refine h h' _ ch ⟨e.scope, e.kind, e.glob, e.bui, e.room, e.inX, fun y hy => ?_, e.top.keep (g_chg cx), e.hok.keep (g_chg cx), _, hn, fun y d' q => ?_⟩
  · by_cases z : y = env.locals
    · subst z; obtain ⟨o, _, _, ho, _⟩ := hn; exact ⟨o, ho⟩
    · obtain ⟨o, ho⟩ := e.has y hy; exact ⟨o, hs.extBut y o z ho⟩
  · rw [List.lookup_cons] at q
    cases hb : y == x with
    | true =>
      rw [hb] at q
      cases q
      have := beq_iff_eq.mp hb
      subst this
      exact ⟨v, r.keep (g_chg cx), .inl ⟨hk, by simp⟩⟩
    | false =>
      rw [hb] at q
      have hne : y ≠ x := fun z => by rw [z] at hb; simp at hb
      obtain ⟨v', r', z⟩ := (l y d' q).keep (g_chg cx)
      refine ⟨v', r', ?_⟩
      rcases z with ⟨z1, z2⟩ | z
      · exact .inl ⟨z1, by simp [hne, z2]⟩
      · exact .inr z

/-- one statement -/
structure X1 (W : Wd) (b : Nat) (sc : Scope) (σ : Env) (st : Stmt) (o : Out) : Prop where
  go : ∀ (A : Around) (env : PySem.Env) (X : List Addr) (s : Shared) (Q : Flow → Shared → Prop) (E : Value → Shared → Prop), EnvOK W b sc A env σ X s.heap →
    (∀ f h' tk', Chg [env.locals] s.heap h' → OutOK W b sc A env X o f h' → Q f { s with heap := h', toks := tk' }) → wpAny (model W.prog W.w) A (exec st env) Q E s

theorem xs_nil : Xs W b sc σ [] (.nxt σ) := .mk fun A env X s Q E e h => wpAny_execs_nil (h _ s.heap s.toks Keep.rfl'.chg ⟨rfl, e⟩)
theorem xs_cons {st : Stmt} {r : List Stmt} {τ : Env} {o : Out} (h1 : X1 W b sc σ st (.nxt τ)) (h2 : Xs W b sc τ r o) : Xs W b sc σ (st :: r) o := .mk fun A env X s Q E e h =>
  wpAny_execs_cons (h1.go A env X s _ _ e fun f h₁ t₁ c₁ o₁ => by
    obtain ⟨rfl, e₁⟩ := o₁
    exact h2.go A env X _ Q E e₁ fun f h₂ t₂ c₂ o₂ => h f h₂ t₂ (c₁.trans c₂) o₂)
theorem xs_ret {st : Stmt} {r : List Stmt} {d : D} (h1 : X1 W b sc σ st (.ret d)) : Xs W b sc σ (st :: r) (.ret d) := .mk fun A env X s Q E e h =>
  wpAny_execs_cons (h1.go A env X s _ _ e fun f h₁ t₁ c₁ o₁ => by
    obtain ⟨v, rfl, r₁⟩ := o₁
    exact h _ h₁ t₁ c₁ ⟨v, rfl, r₁⟩)

theorem x1_assign {x : Str} {p p' : Pos} {v : Expr} {d : D} (h1 : Ev W b sc σ v d) (hl : sc.names.lookup x = some .local) (hs : ∀ env, swapsWith v (some (.Name x p')) p.line env = pure false) : X1 W b sc σ (.Assign [.Name x p'] v p) (.nxt ((x, d) :: σ)) := .mk fun A env X s Q E e h =>
  wpAny_Assign_Name (hs := hs env) (h1.go A env X s _ _ e fun u h₁ t₁ k₁ r₁ => store_ok (e.keep k₁) r₁ hl fun h₂ t₂ c₂ e₂ => h .next h₂ t₂ (k₁.chg.trans c₂) ⟨rfl, e₂⟩)
theorem x1_return {v : Expr} {p : Pos} {d : D} (h1 : Ev W b sc σ v d) : X1 W b sc σ (.Return (some v) p) (.ret d) := .mk fun A env X s Q E e h =>
  wpAny_Return_some (h1.go A env X s _ _ e fun u h₁ t₁ k₁ r₁ => h _ h₁ t₁ k₁.chg ⟨u, rfl, r₁⟩)
theorem x1_if_true {t : Expr} {x y : List Stmt} {p : Pos} {o : Out} (ht : Ts W b sc σ t true) (h1 : Xs W b sc σ x o) : X1 W b sc σ (.If t x y p) o := .mk fun A env X s Q E e h =>
  wpAny_If (ht.go A env X s _ _ e fun h₁ t₁ k₁ => h1.go A env X _ _ _ (e.keep k₁) fun f h₂ t₂ c₂ o₂ => h f h₂ t₂ (k₁.chg.trans c₂) o₂)
theorem x1_if_false {t : Expr} {x y : List Stmt} {p : Pos} {o : Out} (ht : Ts W b sc σ t false) (h1 : Xs W b sc σ y o) : X1 W b sc σ (.If t x y p) o := .mk fun A env X s Q E e h =>
  wpAny_If (ht.go A env X s _ _ e fun h₁ t₁ k₁ => h1.go A env X _ _ _ (e.keep k₁) fun f h₂ t₂ c₂ o₂ => h f h₂ t₂ (k₁.chg.trans c₂) o₂)

/-- unpacking a tuple -/
theorem draw_ok {A : Around} {X : List Addr} {h0 : Heap} {I : Addr} {ds : List D} {P : Nat → Heap → Prop} (io : IterOK W A X h0 I ds P) (n0 : h0.get? I = none) : ∀ (n i : Nat) (s : Shared) (Q : List Value → Shared → Prop) (E : Value → Shared → Prop), n + i = ds.length → P i s.heap →
    (∀ vs h' tk', P ds.length h' → Chg [I] s.heap h' → RVs W (G X h0) vs (ds.drop i) → Q vs { s with heap := h', toks := tk' }) → wpAny (model W.prog W.w) A (draw (.ref I) n) Q E s
  | 0, i, s, Q, E, hn, hp, h => by
    have : i = ds.length := by omega
    subst this
    exact wpAny_pure (h [] s.heap s.toks hp (fun _ _ _ e => e) (by rw [List.drop_length]; exact .nil))
  | n + 1, i, s, Q, E, hn, hp, h => by
    have hlt : i < ds.length := by omega
    show wpAny _ _ (pyNext (.ref I) >>= _) Q E s
    refine wpAny_bind (io.next i ds[i] (List.getElem?_eq_getElem hlt) s _ _ hp fun v h₁ t₁ hp₁ c₁ r₁ => ?_)
    refine wpAny_bind (wpAny_holding (draw_ok io n0 n (i + 1) _ _ _ (by omega) hp₁ fun vs h₂ t₂ hp₂ c₂ r₂ => wpAny_pure ?_))
    refine h _ h₂ t₂ hp₂ (c₁.trans c₂) ?_
    rw [List.drop_eq_getElem_cons hlt]
    exact .cons r₁ r₂

theorem unpack_ok {A : Around} {X : List Addr} {s : Shared} {v : Value} {ds : List D} {Q : List Value → Shared → Prop} {E : Value → Shared → Prop} (c : Cx W b A X s.heap) (r : RV W (G X s.heap) v (.tup ds))
    (h : ∀ vs h' tk', Keep s.heap h' → RVs W (G X h') vs ds → Q vs { s with heap := h', toks := tk' }) : wpAny (model W.prog W.w) A (unpackItems v ds.length none) Q E s := by
  have r0 := r
  obtain ⟨l, vs, e0, q, rs⟩ := r.inv_tup
  subst e0
  ·
    unfold unpackItems
    refine wpAny_bind ?_
    unfold notIterableAtAll
    refine wpAny_bind (wpAny_specialOf (q.keep g_sub).is.typeIs F.slot_tuple_iter.lookup ?_)
    refine wpAny_pure ?_
    simp only [Bool.false_eq_true, if_false]
    refine wpAny_bind (wpAny_holding (itr_tup.go A X s _ _ _ c r0 fun I P h₁ t₁ n0 k₁ p₁ io => ?_))
    refine wpAny_bind (wpAny_holding (draw_ok io n0 ds.length 0 _ _ _ rfl p₁ fun ws h₂ t₂ p₂ c₂ r₂ => ?_))
    rw [List.drop_zero] at r₂
    rw [if_neg (by rw [r₂.length]; omega)]
    have k2 : Keep (G X s.heap) h₂ := fun b o e => c₂ b o (fun q => by simp at q; subst q; rw [gNone n0] at e; cases e) (k₁ b o (g_sub b o e))
    refine wpAny_bind (wpAny_holding (io.stop _ _ _ p₂ k2 fun h₃ t₃ c₃ _ => ?_))
    simp only [Option.isSome_none, Bool.false_eq_true, if_false]
    have k3 : Keep s.heap h₃ := fun b o e => (c₂.trans c₃) b o (fun q => by simp at q; subst q; rw [n0] at e; cases e) (k₁ b o e)
    exact wpAny_pure (h ws h₃ t₃ k3 (r₂.keep (g_keep k3)))

theorem bind_ok {A : Around} {env : PySem.Env} {X : List Addr} {s : Shared} {x : Str} {v : Value} {d : D} {Q : Unit → Shared → Prop} {E : Value → Shared → Prop} (e : EnvOK W b sc A env σ X s.heap) (r : RV W (G X s.heap) v d) (hl : sc.names.lookup x = some .local)
    (h : ∀ h' tk', Chg [env.locals] s.heap h' → EnvOK W b sc A env ((x, d) :: σ) X h' → Q () { s with heap := h', toks := tk' }) : wpAny (model W.prog W.w) A (bindName env x v) Q E s :=
  wpAny_bindName (store_ok e r hl h)

/-- a, b = (x, y), stored the other way round -/
theorem x1_swap2 {x y : Str} {px py pt pv p : Pos} {k kv : Nat} {es : List Expr} {d1 d2 : D} (h1 : Ev W b sc σ (.Tuple es kv pv) (.tup [d1, d2])) (lx : sc.names.lookup x = some .local) (ly : sc.names.lookup y = some .local)
    (hw : ∀ env : PySem.Env, env.scope = sc → swappedStores [.Tuple [.Name x px, .Name y py] k pt] (.Tuple es kv pv) env = pure (some [x, y])) :
    X1 W b sc σ (.Assign [.Tuple [.Name x px, .Name y py] k pt] (.Tuple es kv pv) p) (.nxt ((x, d1) :: (y, d2) :: σ)) := .mk fun A env X s Q E e h => by
  refine Assign_Tuple_swapped (names := [x, y]) (hw := hw env e.scope) (h1.go A env X s _ _ e fun u h₁ t₁ k₁ r₁ => unpack_ok (ds := [d1, d2]) (e.keep k₁).cx r₁ fun vs h₂ t₂ k₂ r₂ => ?_)
  cases r₂ with
  | @cons v1 _ _ _ q1 r₂ => cases r₂ with
    | @cons v2 _ _ _ q2 r₂ =>
      cases r₂
      have e2 := (e.keep k₁).keep k₂
      show wpAny _ A (do holding [v1] (bindName env y v2); (do holding [] (bindName env x v1); pure ())) _ _ _
      refine wpAny_bind (wpAny_holding (bind_ok e2 q2 ly fun h₃ t₃ c₃ e₃ => ?_))
      have cx : Chg X h₂ h₃ := c₃.mono fun b q => by simp at q; subst q; exact e.inX
      refine wpAny_bind (wpAny_holding (bind_ok e₃ (q1.keep (g_chg cx)) lx fun h₄ t₄ c₄ e₄ => wpAny_pure ?_))
      exact h .next h₄ t₄ (((k₁.trans k₂).chg.trans c₃).trans c₄) ⟨rfl, e₄⟩
theorem x1_swap3 {x y z : Str} {px py pz pt pv p : Pos} {k kv : Nat} {es : List Expr} {d1 d2 d3 : D} (h1 : Ev W b sc σ (.Tuple es kv pv) (.tup [d1, d2, d3])) (lx : sc.names.lookup x = some .local) (ly : sc.names.lookup y = some .local) (lz : sc.names.lookup z = some .local)
    (hw : ∀ env : PySem.Env, env.scope = sc → swappedStores [.Tuple [.Name x px, .Name y py, .Name z pz] k pt] (.Tuple es kv pv) env = pure (some [x, y, z])) :
    X1 W b sc σ (.Assign [.Tuple [.Name x px, .Name y py, .Name z pz] k pt] (.Tuple es kv pv) p) (.nxt ((x, d1) :: (y, d2) :: (z, d3) :: σ)) := .mk fun A env X s Q E e h => by
  refine Assign_Tuple_swapped (names := [x, y, z]) (hw := hw env e.scope) (h1.go A env X s _ _ e fun u h₁ t₁ k₁ r₁ => unpack_ok (ds := [d1, d2, d3]) (e.keep k₁).cx r₁ fun vs h₂ t₂ k₂ r₂ => ?_)
  cases r₂ with
  | @cons v1 _ _ _ q1 r₂ => cases r₂ with
    | @cons v2 _ _ _ q2 r₂ => cases r₂ with
      | @cons v3 _ _ _ q3 r₂ =>
        cases r₂
        have e2 := (e.keep k₁).keep k₂
        show wpAny _ A (do holding [v2, v1] (bindName env z v3); (do holding [v1] (bindName env y v2); (do holding [] (bindName env x v1); pure ()))) _ _ _
        refine wpAny_bind (wpAny_holding (bind_ok e2 q3 lz fun h₃ t₃ c₃ e₃ => ?_))
        have cx : Chg X h₂ h₃ := c₃.mono fun b q => by simp at q; subst q; exact e.inX
        refine wpAny_bind (wpAny_holding (bind_ok e₃ (q2.keep (g_chg cx)) ly fun h₄ t₄ c₄ e₄ => ?_))
        have cx' : Chg X h₃ h₄ := c₄.mono fun b q => by simp at q; subst q; exact e.inX
        refine wpAny_bind (wpAny_holding (bind_ok e₄ ((q1.keep (g_chg cx)).keep (g_chg cx')) lx fun h₅ t₅ c₅ e₅ => wpAny_pure ?_))
        exact h .next h₅ t₅ ((((k₁.trans k₂).chg.trans c₃).trans c₄).trans c₅) ⟨rfl, e₅⟩

/-- while -/
inductive Wl (W : Wd) (b : Nat) (sc : Scope) (t : Expr) (body : List Stmt) : Nat → Env → Out → Prop
  | stop {σ : Env} {n : Nat} : Ts W b sc σ t false → Wl W b sc t body n σ (.nxt σ)
  | turn {σ τ : Env} {n : Nat} {o : Out} : Ts W b sc σ t true → Xs W b sc σ body (.nxt τ) → Wl W b sc t body n τ o → Wl W b sc t body (n + 1) σ o

theorem x1_while {t : Expr} {body : List Stmt} {p : Pos} {n : Nat} {o : Out} (hw : Wl W b sc t body n σ o) : X1 W b sc σ (.While t body [] p) o := .mk fun A env X s Q E e h =>
  wpAny_While (codeAny_whileLoop (fun k s' => ∃ σ' h' tk', s' = { s with heap := h', toks := tk' } ∧ Wl W b sc t body k σ' o ∧ EnvOK W b sc A env σ' X h' ∧ Chg [env.locals] s.heap h')
    (fun k s' hI => by
      obtain ⟨σ', h', tk', rfl, hw, e', c'⟩ := hI
      cases hw with
      | stop ht => exact ht.go A env X _ _ _ e' fun h₁ t₁ k₁ => wpAny_execs_nil (h .next h₁ t₁ (c'.trans k₁.chg) ⟨rfl, e'.keep k₁⟩)
      | turn ht hb hr =>
        refine ht.go A env X _ _ _ e' fun h₁ t₁ k₁ => ?_
        rw [if_pos rfl]
        refine hb.go A env X _ _ _ (e'.keep k₁) fun f h₂ t₂ c₂ o₂ => ?_
        obtain ⟨rfl, e₂⟩ := o₂
        exact ⟨_, Nat.lt_succ_self _, _, h₂, t₂, rfl, hr, e₂, (c'.trans k₁.chg).trans c₂⟩)
    n ⟨σ, s.heap, s.toks, rfl, hw, e, Keep.rfl'.chg⟩)

/-- for -/
inductive Lp (W : Wd) (b : Nat) (sc : Scope) (x : Str) (body : List Stmt) : List D → Env → Out → Prop
  | nil {σ : Env} : Lp W b sc x body [] σ (.nxt σ)
  | cons {d : D} {r : List D} {σ τ : Env} {o : Out} : Xs W b sc ((x, d) :: σ) body (.nxt τ) → Lp W b sc x body r τ o → Lp W b sc x body (d :: r) σ o

theorem EnvOK.more {A : Around} {env : PySem.Env} {X : List Addr} {h h' : Heap} {I : Addr} (e : EnvOK W b sc A env σ X h) (k : Keep h h') (n : h.get? I = none) (q : ∃ o, h'.get? I = some o) : EnvOK W b sc A env σ (I :: X) h' := by
  obtain ⟨m, n', l⟩ := e.loc
  have g := g_more (X := X) k.chg n
  refine ⟨e.scope, e.kind, e.glob, e.bui, e.room, .tail _ e.inX, fun x hx => ?_, e.top.keep g, e.hok.keep g, m, n'.keeps k, fun x d q => (l x d q).keep g⟩
  rcases List.mem_cons.mp hx with rfl | hx
  · exact q
  · exact k.lt (e.has x hx)
theorem EnvOK.less {A : Around} {env : PySem.Env} {X : List Addr} {h : Heap} {I : Addr} (e : EnvOK W b sc A env σ (I :: X) h) (i : env.locals ∈ X) : EnvOK W b sc A env σ X h := by
  obtain ⟨m, n', l⟩ := e.loc
  exact ⟨e.scope, e.kind, e.glob, e.bui, e.room, i, fun x hx => e.has x (.tail _ hx), e.top.keep g_tail, e.hok.keep g_tail, m, n', fun x d q => (l x d q).keep g_tail⟩
theorem EnvOK.turn {A : Around} {env : PySem.Env} {X : List Addr} {h h' : Heap} {I : Addr} (e : EnvOK W b sc A env σ X h) (c : Chg [I] h h') (i : I ∈ X) (n : I ≠ env.locals) (q : ∃ o, h'.get? I = some o) : EnvOK W b sc A env σ X h' := by
  obtain ⟨m, n', l⟩ := e.loc
  have cx : Chg X h h' := c.mono fun b q => by simp at q; subst q; exact i
  have g := g_chg cx
  refine ⟨e.scope, e.kind, e.glob, e.bui, e.room, e.inX, fun x hx => ?_, e.top.keep g, e.hok.keep g, m, ?_, fun x d q => (l x d q).keep g⟩
  · by_cases z : x = I
    · subst z; exact q
    · obtain ⟨o, ho⟩ := e.has x hx; exact ⟨o, c x o (by simpa using z) ho⟩
  · obtain ⟨o, es, ep, ho, r⟩ := n'
    exact ⟨o, es, ep, c _ _ (by simpa using Ne.symm n) ho, r⟩
theorem OutOK.less {A : Around} {env : PySem.Env} {X : List Addr} {h : Heap} {I : Addr} {o : Out} {f : Flow} (q : OutOK W b sc A env (I :: X) o f h) (i : env.locals ∈ X) : OutOK W b sc A env X o f h := by
  cases o with
  | nxt τ => exact ⟨q.1, q.2.less i⟩
  | ret d => obtain ⟨v, q1, q2⟩ := q; exact ⟨v, q1, q2.keep g_tail⟩

theorem x1_for {x : Str} {px p : Pos} {it : Expr} {body : List Stmt} {c : D} {ds : List D} {o : Out} (h1 : Ev W b sc σ it c) (hi : Itr W b c ds) (hl : sc.names.lookup x = some .local) (lp : Lp W b sc x body ds σ o) (hs : ∀ env v, foldedSetIterable it env v = pure v) :
    X1 W b sc σ (.For (.Name x px) it body [] p) o := .mk fun A env X s Q E e h =>
  wpAny_For (hs := hs env) (h1.go A env X s _ _ e fun u h₁ t₁ k₁ r₁ => hi.go A X _ u _ _ (e.keep k₁).cx r₁ fun I P h₂ t₂ n0 k₂ p₂ io => by
    have base : Keep s.heap h₂ := k₁.trans k₂
    have notI : I ∉ X := (e.keep k₁).fresh n0
    have LI : I ≠ env.locals := fun q => notI (q ▸ e.inX)
    have e2 : EnvOK W b sc A env σ (I :: X) h₂ := (e.keep k₁).more k₂ n0 (io.has _ _ p₂)
    refine codeAny_forLoop (fun k s' => ∃ i σ' h' tk', s' = { s with heap := h', toks := tk' } ∧ k + i = ds.length ∧ P i h' ∧ Lp W b sc x body (ds.drop i) σ' o ∧ EnvOK W b sc A env σ' (I :: X) h' ∧ Chg [env.locals, I] h₂ h')
      (fun k s' hI => ?_) ds.length ⟨0, σ, h₂, t₂, rfl, rfl, p₂, lp, e2, fun _ _ _ e => e⟩
    obtain ⟨i, σ', h', tk', rfl, hk, hp, hlp, e', c'⟩ := hI
    have gk : Keep (G X h₁) h' := fun b o eb => c' b o (fun q => by
      simp at q
      rcases q with q | q
      · subst q; exact g_not eb e.inX
      · subst q; rw [gNone n0] at eb; cases eb) (k₂ _ _ (g_sub _ _ eb))
    rcases Nat.lt_or_ge i ds.length with hlt | hge
    · rw [List.drop_eq_getElem_cons hlt] at hlp
      cases hlp with
      | cons hb hr =>
        refine io.next i ds[i] (List.getElem?_eq_getElem hlt) _ _ _ hp fun v h₃ t₃ hp₃ c₃ r₃ => ?_
        have gk3 : Keep (G X h₁) (G (I :: X) h₃) := fun b o eb => by
          have nI : b ≠ I := fun q => by subst q; rw [gNone n0] at eb; cases eb
          refine g_get (c₃ b o (by simpa using nI) (gk b o eb)) fun q => ?_
          rcases List.mem_cons.mp q with q | q
          · exact nI q
          · exact g_not eb q
        have e3 : EnvOK W b sc A env σ' (I :: X) h₃ := e'.turn c₃ (.head _) LI (io.has _ _ hp₃)
        refine wpAny_assign_Name (store_ok e3 (r₃.keep gk3) hl fun h₄ t₄ c₄ e₄ => hb.go A env (I :: X) _ _ _ e₄ fun f h₅ t₅ c₅ o₅ => ?_)
        obtain ⟨rfl, e₅⟩ := o₅
        refine ⟨k - 1, by omega, i + 1, _, h₅, t₅, rfl, by omega, ?_, hr, e₅, ?_⟩
        · exact io.frame _ _ _ [env.locals] (c₄.trans c₅) (fun y hy => by simp at hy; subst hy; exact .inl e.inX) hp₃
        · exact ((c'.trans (c₃.mono fun b q => by simp at q; simp [q])).trans (c₄.mono fun b q => by simp at q; simp [q])).trans (c₅.mono fun b q => by simp at q; simp [q])
    · have hil : i = ds.length := by omega
      subst hil
      rw [List.drop_length] at hlp
      cases hlp
      refine io.stop _ _ _ hp gk fun h₃ t₃ c₃ hI => wpAny_execs_nil ?_
      have ch : Chg [env.locals] s.heap h₃ := fun b o hb eb => by
        have nI : b ≠ I := fun q => by subst q; have := k₁ _ _ eb; rw [n0] at this; cases this
        exact c₃ b o (by simpa using nI) (c' b o (by simp at hb; simp [hb, nI]) (base b o eb))
      refine h .next h₃ t₃ ch ⟨rfl, ?_⟩
      exact (e'.turn c₃ (.head _) LI hI).less e.inX)
end
section
variable {W : Wd} {b : Nat} {sc : Scope} {σ : Env}

theorem EnvOK.sub {A : Around} {env : PySem.Env} {X : List Addr} {h : Heap} {τ : Env} (e : EnvOK W b sc A env σ X h) (k : ∀ y d, τ.lookup y = some d → σ.lookup y = some d) : EnvOK W b sc A env τ X h := by
  obtain ⟨m, n, l⟩ := e.loc
  exact ⟨e.scope, e.kind, e.glob, e.bui, e.room, e.inX, e.has, e.top, e.hok, m, n, fun y d q => l y d (k y d q)⟩

/-- the tests of a comprehension's clause -/
inductive If1 (W : Wd) (b : Nat) (sc : Scope) (σ : Env) : List Expr → Bool → Prop
  | none : If1 W b sc σ [] true
  | one {c : Expr} {v : Bool} : Ts W b sc σ c v → If1 W b sc σ [c] v

inductive Cp (W : Wd) (b : Nat) (sc : Scope) (τ : Env) (elt : Expr) (x : Str) (ifs : List Expr) : List D → List D → Prop
  | nil : Cp W b sc τ elt x ifs [] []
  | skip {d : D} {r rs : List D} : If1 W b sc ((x, d) :: τ) ifs false → Cp W b sc τ elt x ifs r rs → Cp W b sc τ elt x ifs (d :: r) rs
  | take {d v : D} {r rs : List D} : If1 W b sc ((x, d) :: τ) ifs true → Ev W b sc ((x, d) :: τ) elt v → Cp W b sc τ elt x ifs r rs → Cp W b sc τ elt x ifs (d :: r) (v :: rs)

theorem if1_ok {A : Around} {env : PySem.Env} {X : List Addr} {s : Shared} {Q : Bool → Shared → Prop} {E : Value → Shared → Prop} {ifs : List Expr} {v : Bool} (i : If1 W b sc σ ifs v) (e : EnvOK W b sc A env σ X s.heap)
    (h : ∀ h' tk', Keep s.heap h' → Q v { s with heap := h', toks := tk' }) :
    wpAny (model W.prog W.w) A (forIn ifs true fun c r => if r = true then do let ok ← isTrue c env (eval c env); pure (ForInStep.yield ok) else pure (ForInStep.yield r)) Q E s := by
  cases i with
  | none => exact wpAny_pure (h s.heap s.toks Keep.rfl')
  | one t => exact wpAny_tests_one (t.go A env X s Q E e h)

/-- the innermost loop of a comprehension over a list -/
theorem comp_in {elt : Expr} {gens : List Comprehension} {scp : Scope} {cpos : Pos} {x : Str} {px ip : Pos} {ifs : List Expr} {depth : Nat} {A : Around} {cenv : PySem.Env} {X X0 : List Addr} {h0 : Heap} {I Da : Addr} {P : Nat → Heap → Prop} {ds rs acc : List D} {τ : Env} {s : Shared} {R : Result → Shared → Prop}
    (ht : ∀ it ac env, compTurn (.ListComp elt gens scp cpos) depth it ac env = (do
      standAt ip
      match ← pyNext it with
      | none => pure (.done .next)
      | some v =>
        letOwnedTupleGo (.Name x px) it v
        assign (.Name x px) env v
        let mut ok := true
        for c in ifs do
          if ok then ok ← isTrue c env (eval c env)
        if ok then
          (do let _ ← call (.builtin "list.append") [ac, ← eval elt env])
        again (.compLoop (.ListComp elt gens scp cpos) depth it ac env)))
    (hl : sc.names.lookup x = some .local) (cp : Cp W b sc τ elt x ifs ds rs) (io : IterOK W A X0 h0 I ds P)
    (hY : ∀ y ∈ [cenv.locals, Da], y ∈ X0 ∨ (h0.get? y = none ∧ y ≠ I)) (hX : ∀ y ∈ X0, y ∈ X) (hI : I ∈ X) (hD : Da ∈ X) (hDC : Da ≠ cenv.locals) (hDI : Da ≠ I) (hIC : I ≠ cenv.locals) (hn : acc.length + ds.length ≤ 1000)
    (e0 : EnvOK W b sc A cenv τ X s.heap) (p0 : P 0 s.heap) (gk : Keep (G X0 h0) (G X s.heap)) {items : Array Value} (hpl : s.heap.PlainList Da items) (ra : RVs W (G X s.heap) items.toList acc)
    (hR : ∀ h' tk' items' τ', EnvOK W b sc A cenv τ' X h' → (∀ y d, y ≠ x → τ.lookup y = some d → τ'.lookup y = some d) → h'.PlainList Da items' → RVs W (G X h') items'.toList (acc ++ rs) → Chg [cenv.locals, Da, I] s.heap h' → R (.ok .next) { s with heap := h', toks := tk' }) :
    codeAny (model W.prog W.w) A (.compLoop (.ListComp elt gens scp cpos) depth (.ref I) (.ref Da) cenv) R s := by
  refine codeAny_loop rfl (fun k s' => ∃ i τ' h' tk' items' acc' rs', s' = { s with heap := h', toks := tk' } ∧ k + i = ds.length ∧ P i h' ∧ Cp W b sc τ elt x ifs (ds.drop i) rs' ∧ acc' ++ rs' = acc ++ rs ∧ acc'.length + (ds.length - i) ≤ 1000 ∧
    EnvOK W b sc A cenv τ' X h' ∧ (∀ y d, y ≠ x → τ.lookup y = some d → τ'.lookup y = some d) ∧ h'.PlainList Da items' ∧ RVs W (G X h') items'.toList acc' ∧ Chg [cenv.locals, Da, I] s.heap h') (fun k s' hI' => ?_) ds.length
    ⟨0, τ, s.heap, s.toks, items, acc, rs, rfl, rfl, p0, cp, rfl, hn, e0, fun _ _ _ q => q, hpl, ra, fun _ _ _ e => e⟩
  obtain ⟨i, τ', h', tk', items', acc', rs', rfl, hk, hp, hcp, hcat, hlen, e', hτ, hpl', ra', c'⟩ := hI'
  show wpAny _ A ((compTurn (.ListComp elt gens scp cpos) depth (.ref I) (.ref Da) cenv).onRaise (fun x => do noteFrame x cenv; theTreesLotGoes x)) _ _ _
  refine wpAny_noted ?_
  rw [ht]
  have cXof : ∀ {h1 h2 : Heap}, Chg [cenv.locals, Da, I] h1 h2 → Chg X h1 h2 := fun c => c.mono fun y q => by
    simp at q; rcases q with rfl | rfl | rfl
    · exact e0.inX
    · exact hD
    · exact hI
  have gk' : Keep (G X0 h0) (G X h') := gk.trans (g_chg (cXof c'))
  refine wpAny_bind (wpAny_standAt (wpAny_bind ?_))
  rcases Nat.lt_or_ge i ds.length with hlt | hge
  · rw [List.drop_eq_getElem_cons hlt] at hcp
    refine io.next i ds[i] (List.getElem?_eq_getElem hlt) _ _ _ hp fun v h₁ t₁ hp₁ c₁ r₁ => ?_
    have cI : ∀ {h1 h2 : Heap}, Chg [I] h1 h2 → Chg [cenv.locals, Da, I] h1 h2 := fun c => c.mono fun y q => by simp at q; simp [q]
    have cC : ∀ {h1 h2 : Heap}, Chg [cenv.locals] h1 h2 → Chg [cenv.locals, Da, I] h1 h2 := fun c => c.mono fun y q => by simp at q; simp [q]
    have cD : ∀ {h1 h2 : Heap}, Chg [Da] h1 h2 → Chg [cenv.locals, Da, I] h1 h2 := fun c => c.mono fun y q => by simp at q; simp [q]
    have e1 : EnvOK W b sc A cenv τ' X h₁ := e'.turn c₁ hI hIC (io.has _ _ hp₁)
    have pl1 : h₁.PlainList Da items' := hpl'.at fun o eo => c₁ _ _ (by simpa using hDI) eo
    have ra1 : RVs W (G X h₁) items'.toList acc' := ra'.keep (g_chg (cXof (cI c₁)))
    refine wpAny_bind (wpAny_of_eq (a := ()) rfl ?_)
    refine wpAny_bind (wpAny_assign_Name (store_ok e1 (r₁.keep (gk'.trans (g_chg (cXof (cI c₁))))) hl fun h₂ t₂ c₂ e₂ => ?_))
    have e2 : EnvOK W b sc A cenv ((x, ds[i]) :: τ) X h₂ := e₂.sub fun y d q => by
      rw [List.lookup_cons] at q ⊢
      cases hb : y == x with
      | true => rw [hb] at q; exact q
      | false => rw [hb] at q; exact hτ y d (fun z => by rw [z] at hb; simp at hb) q
    have τ2 : ∀ y d, y ≠ x → τ.lookup y = some d → ((x, ds[i]) :: τ).lookup y = some d := fun y d n q => by
      rw [List.lookup_cons]
      have : (y == x) = false := beq_eq_false_iff_ne.mpr n
      rw [this]; exact q
    have pl2 : h₂.PlainList Da items' := pl1.at fun o eo => c₂ _ _ (by simpa using hDC) eo
    have ra2 : RVs W (G X h₂) items'.toList acc' := ra1.keep (g_chg (cXof (cC c₂)))
    have hp2 : P (i + 1) h₂ := io.frame _ _ _ [cenv.locals] c₂ (fun y hy => hY y (by simp at hy; simp [hy])) hp₁
    cases hcp with
    | skip hif hr =>
      refine wpAny_bind (if1_ok hif e2 fun h₃ t₃ k₃ => ?_)
      refine wpAny_pure ⟨rfl, k - 1, by omega, i + 1, _, h₃, t₃, items', acc', rs', rfl, by omega, io.frame _ _ _ [] k₃.chg (fun y hy => (nomatch hy)) hp2, hr, hcat, by omega, e2.keep k₃, τ2, pl2.at fun o eo => k₃ _ _ eo, ra2.keep (g_keep k₃),
        ((c'.trans (cI c₁)).trans (cC c₂)).trans k₃.chg⟩
    | @take _ dv _ _ hif hev hr =>
      refine wpAny_bind (if1_ok hif e2 fun h₃ t₃ k₃ => ?_)
      refine wpAny_bind (wpAny_bind (hev.go A cenv X _ _ _ (e2.keep k₃) fun v₄ h₄ t₄ k₄ r₄ => wpAny_bind (wpAny_list_append_plain (hsz := ?_) (pl2.at fun o eo => k₄ _ _ (k₃ _ _ eo)) fun h₅ pl₅ s₅ => ?_)))
      · have c5 : Chg [Da] h₄ h₅ := fun b o hb eb => s₅.extBut b o (by simpa using hb) eb
        have e5 : EnvOK W b sc A cenv ((x, ds[i]) :: τ) X h₅ := ((e2.keep k₃).keep k₄).turn c5 hD hDC (let ⟨n, q⟩ := pl₅; ⟨_, q⟩)
        have ra5 : RVs W (G X h₅) (items'.push v₄).toList (acc' ++ [dv]) := by
          rw [Array.toList_push]
          exact (((ra2.keep (g_keep k₃)).keep (g_keep k₄)).keep (g_chg (cXof (cD c5)))).append (.cons (r₄.keep (g_chg (cXof (cD c5)))) .nil)
        refine wpAny_pure (wpAny_pure ⟨rfl, k - 1, by omega, i + 1, _, h₅, t₄, items'.push v₄, acc' ++ [dv], _, rfl, by omega, ?_, hr, by rw [List.append_assoc]; exact hcat, by simp; omega, e5, τ2, pl₅, ra5, ?_⟩)
        · exact io.frame _ _ _ [Da] c5 (fun y hy => hY y (by simp at hy; simp [hy])) (io.frame _ _ _ [] (k₃.trans k₄).chg (fun y hy => (nomatch hy)) hp2)
        · exact ((((c'.trans (cI c₁)).trans (cC c₂)).trans k₃.chg).trans k₄.chg).trans (cD c5)
      · have := ra'.length
        simp only [Array.length_toList] at this
        rw [sizeLine_is]; omega
  · have hil : i = ds.length := by omega
    subst hil
    rw [List.drop_length] at hcp
    cases hcp
    refine io.stop _ _ _ hp (gk'.trans g_sub) fun h₁ t₁ c₁ hI₁ => wpAny_pure ?_
    rw [List.append_nil] at hcat
    subst hcat
    have cI : ∀ {h1 h2 : Heap}, Chg [I] h1 h2 → Chg [cenv.locals, Da, I] h1 h2 := fun c => c.mono fun y q => by simp at q; simp [q]
    refine hR h₁ t₁ items' τ' (e'.turn c₁ hI hIC hI₁) hτ (hpl'.at fun o eo => c₁ _ _ (by simpa using hDI) eo) (ra'.keep (g_chg (cXof (cI c₁)))) (c'.trans (cI c₁))
end
section
variable {W : Wd} {b : Nat} {sc : Scope} {σ : Env}

def relab (scope sc : Scope) : Scope :=
  { scope with names := scope.names.map fun (n, k) => if (k == .free && sc.kind == .function && sc.names.lookup n == some .cell) then (n, .cell) else (n, k) }
theorem relabel_is {scope : Scope} {env : PySem.Env} : relabel scope env = relab scope env.scope := rfl

def clo (cells : List (Str × Addr)) : List (Str × NameKind) → List (Str × Addr) → List (Str × Addr)
  | [], cs => cs
  | (n, k) :: r, cs => if k == .free then clo cells r ((n, (cells.lookup n).getD 0) :: cs) else clo cells r cs

theorem clo_lookup {cells : List (Str × Addr)} {y : Str} {c : Addr} (h : cells.lookup y = some c) : ∀ (l : List (Str × NameKind)) (cs : List (Str × Addr)), (cs.lookup y = some c ∨ (y, NameKind.free) ∈ l) → (clo cells l cs).lookup y = some c
  | [], cs, q => by
    rcases q with q | q
    · exact q
    · cases q
  | (n, k) :: r, cs, q => by
    unfold clo
    by_cases hk : (k == NameKind.free) = true
    · rw [if_pos hk]
      refine clo_lookup h r _ ?_
      by_cases hy : (y == n) = true
      · left
        have : y = n := beq_iff_eq.mp hy
        subst this
        rw [List.lookup_cons, beq_self_eq_true]
        simp [h]
      · rcases q with q | q
        · left
          rw [List.lookup_cons]
          simp only [Bool.not_eq_true] at hy
          rw [hy]
          exact q
        · right
          rcases List.mem_cons.mp q with q | q
          · exfalso; apply hy; injection q with q _; rw [q]; simp
          · exact q
    · rw [if_neg hk]
      refine clo_lookup h r _ ?_
      rcases q with q | q
      · exact .inl q
      · right
        rcases List.mem_cons.mp q with q | q
        · exfalso; apply hk; injection q with _ q; rw [← q]; rfl
        · exact q

theorem closure_go {env : PySem.Env} : ∀ (l : List (Str × NameKind)) (cs : List (Str × Addr)), (∀ x ∈ l, x.2 = .free → ∃ c, env.cells.lookup x.1 = some c) →
    (forIn l cs fun (x : Str × NameKind) r => (do
      if x.2 == .free then
        let a ← cellOf env x.1
        pure (ForInStep.yield ((x.1, a) :: r))
      else pure (ForInStep.yield r) : Sem (ForInStep (List (Str × Addr))))) = pure (clo env.cells l cs)
  | [], cs, _ => rfl
  | (n, k) :: r, cs, h => by
    rw [List.forIn_cons]
    unfold clo
    by_cases hk : (k == NameKind.free) = true
    · have hk' : k = NameKind.free := by simpa using hk
      obtain ⟨c, hc⟩ := h (n, k) List.mem_cons_self hk'
      simp only [hk, if_true]
      have : cellOf env n = pure c := by unfold cellOf; rw [hc]
      rw [this]
      simp only [hc, Option.getD_some]
      exact closure_go r _ fun x hx => h x (List.mem_cons_of_mem _ hx)
    · simp only [hk, if_false]
      exact closure_go r _ fun x hx => h x (List.mem_cons_of_mem _ hx)

theorem closure_is {scope : Scope} {env : PySem.Env} (h : ∀ x ∈ scope.names, x.2 = .free → ∃ c, env.cells.lookup x.1 = some c) : closureFor scope env = pure (clo env.cells scope.names []) := by
  have := closure_go (env := env) scope.names [] h
  show (do let cs ← forIn scope.names [] _; pure cs) = _
  rw [← this]
  simp only [bind_pure]

/-- what a comprehension's own scope sees of the names around -/
structure Cap (sc scope : Scope) (σ τ : Env) : Prop where
  cap : ∀ y d, τ.lookup y = some d → σ.lookup y = some d ∧ (y, NameKind.free) ∈ scope.names ∧ sc.names.lookup y = some .cell ∧ (relab scope sc).names.lookup y = some .cell
  all : ∀ x ∈ scope.names, x.2 = .free → ∃ d, τ.lookup x.1 = some d

theorem cap0 {scope : Scope} (h : scope.names.all (fun x => x.2 != .free) = true) : Cap sc scope σ [] := by
  refine ⟨fun y d q => (by cases q), fun x hx hf => ?_⟩
  have := List.all_eq_true.mp h x hx
  rw [hf] at this; cases this
theorem cap1 {scope : Scope} {y : Str} {d : D} (h : scope.names.all (fun x => x.2 != .free || x.1 == y) = true) (h1 : σ.lookup y = some d) (h2 : scope.names.contains (y, NameKind.free) = true) (h3 : sc.names.lookup y = some .cell) (h4 : (relab scope sc).names.lookup y = some .cell) : Cap sc scope σ [(y, d)] := by
  refine ⟨fun z d' q => ?_, fun x hx hf => ?_⟩
  · rw [List.lookup_cons] at q
    cases hz : z == y with
    | true =>
      rw [hz] at q; cases q
      have := beq_iff_eq.mp hz
      subst this
      exact ⟨h1, by simpa using h2, h3, h4⟩
    | false => rw [hz] at q; cases q
  · have := List.all_eq_true.mp h x hx
    rw [hf] at this
    have : x.1 = y := by simpa using this
    exact ⟨d, by rw [this]; simp⟩
theorem cap2 {scope : Scope} {y z : Str} {d d' : D} (h : scope.names.all (fun x => x.2 != .free || x.1 == y || x.1 == z) = true) (hn : (z == y) = false) (h1 : σ.lookup y = some d) (h2 : scope.names.contains (y, NameKind.free) = true) (h3 : sc.names.lookup y = some .cell) (h4 : (relab scope sc).names.lookup y = some .cell)
    (k1 : σ.lookup z = some d') (k2 : scope.names.contains (z, NameKind.free) = true) (k3 : sc.names.lookup z = some .cell) (k4 : (relab scope sc).names.lookup z = some .cell) : Cap sc scope σ [(y, d), (z, d')] := by
  refine ⟨fun u e q => ?_, fun x hx hf => ?_⟩
  · rw [List.lookup_cons] at q
    cases hu : u == y with
    | true =>
      rw [hu] at q; cases q
      have := beq_iff_eq.mp hu
      subst this
      exact ⟨h1, by simpa using h2, h3, h4⟩
    | false =>
      rw [hu] at q
      simp only [List.lookup_cons] at q
      cases hz : u == z with
      | true =>
        rw [hz] at q; cases q
        have := beq_iff_eq.mp hz
        subst this
        exact ⟨k1, by simpa using k2, k3, k4⟩
      | false => rw [hz] at q; cases q
  · have := List.all_eq_true.mp h x hx
    rw [hf] at this
    have : x.1 = y ∨ x.1 = z := by simpa using this
    rcases this with q | q
    · exact ⟨d, by rw [q]; simp⟩
    · exact ⟨d', by rw [q, List.lookup_cons, hn]; simp⟩

/-- the checks of a comprehension's scope -/
def okSc (scope : Scope) (x : Str) : Bool :=
  scope.kind == .function && scope.names.all (fun y => y.2 != .cell) && scope.names.all (fun y => y.2 != .local || scope.names.lookup y.1 == some .local) && scope.names.lookup x == some .local
theorem okSc_kind {scope : Scope} {x : Str} (h : okSc scope x = true) : scope.kind = .function := by simp only [okSc, Bool.and_eq_true] at h; simpa using h.1.1.1
theorem okSc_cell {scope : Scope} {x : Str} (h : okSc scope x = true) : ∀ y ∈ scope.names, y.2 ≠ .cell := fun y hy => by
  simp only [okSc, Bool.and_eq_true] at h
  have := List.all_eq_true.mp h.1.1.2 y hy
  simpa using this
theorem okSc_names {scope : Scope} {x : Str} (h : okSc scope x = true) : ∀ y ∈ scope.names, y.2 = .local → scope.names.lookup y.1 = some .local := fun y hy hl => by
  simp only [okSc, Bool.and_eq_true] at h
  have := List.all_eq_true.mp h.1.2 y hy
  rw [hl] at this
  simpa using this
theorem okSc_x {scope : Scope} {x : Str} (h : okSc scope x = true) : scope.names.lookup x = some .local := by simp only [okSc, Bool.and_eq_true] at h; simpa using h.2

/-- a comprehension's own frame, laid -/
theorem comp_lay {e : Expr} {scope : Scope} {x : Str} {A : Around} {env : PySem.Env} {X : List Addr} {s0 s2 : Shared} {I : Addr} {ds : List D} {P : Nat → Heap → Prop} {τ : Env} {E : Value → Shared → Prop} {RR : Value → Addr → Result → Shared → Prop}
    (hsc : okSc scope x = true) (cap : Cap sc scope σ τ) (e0 : EnvOK W b sc A env σ X s0.heap) (n0 : s0.heap.get? I = none) (k2 : Keep s0.heap s2.heap) (p2 : P 0 s2.heap) (io : IterOK W A X s0.heap I ds P)
    (go : ∀ h' Da cenv tk', s0.heap.get? Da = none → s0.heap.get? cenv.locals = none → Da ≠ cenv.locals → Da ≠ I → I ≠ cenv.locals → cenv.frame = env.frame → Keep s2.heap h' → EnvOK W b (relab scope sc) A cenv τ (I :: cenv.locals :: Da :: X) h' → P 0 h' → Keep (G X s0.heap) (G (I :: cenv.locals :: Da :: X) h') → h'.PlainList Da #[] →
      codeAny (model W.prog W.w) A (.compStart e 0 (.ref I) (.ref Da) cenv) (RR (.ref Da) cenv.locals) { s2 with heap := h', toks := tk' }) :
    wpAny (model W.prog W.w) A (newList []) (fun acc s₃ => wpAny (model W.prog W.w) A (newFunctionEnv scope env.globals (clo env.cells scope.names []) [] env.qual none .none (some env)) (fun cenv s₄ =>
      codeAny (model W.prog W.w) A (.compStart e 0 (.ref I) acc { cenv with scope := relabel scope env }) (RR acc cenv.locals) s₄) E s₃) E s2 := by
  obtain ⟨oI, hoI⟩ := io.has _ _ p2
  refine wpAny_newObj_type (wpAny_newFunctionEnv (okSc_cell hsc) (by intro y hy; simp at hy) (fun h₁ hns₁ hsb₁ => ?_) (okSc_kind hsc))
  dsimp only at hns₁ hsb₁ ⊢
  generalize hH2 : s2.heap.push { cls := .type "list", dict := none, data := .seq ([] : List Value).toArray } = H2 at hns₁ hsb₁ ⊢
  have hC : H2.objs.size = s2.heap.objs.size + 1 := by rw [← hH2, Heap.size_push]
  have hDC : s2.heap.objs.size ≠ H2.objs.size := by rw [hC]; exact Nat.ne_of_lt (Nat.lt_succ_self _)
  have below : ∀ b, b < s2.heap.objs.size → b ≠ H2.objs.size ∧ b ≠ s2.heap.objs.size := fun b hb => ⟨by rw [hC]; exact Nat.ne_of_lt (Nat.lt_succ_of_lt hb), Nat.ne_of_lt hb⟩
  have old : Keep s2.heap h₁ := fun b o e => hsb₁.extBut b o (below b (Heap.lt_size e)).1 (Heap.get?_push_of_some _ (hH2 ▸ Heap.get?_push_of_some _ e))
  have hacc : h₁.PlainList s2.heap.objs.size #[] := ⟨_, hsb₁.extBut _ _ hDC (Heap.get?_push_of_some _ (hH2 ▸ Heap.get?_push_size _ rfl))⟩
  have fr2 : ∀ a, s2.heap.objs.size ≤ a → s2.heap.get? a = none := fun a ha => by
    cases e : s2.heap.get? a with
    | none => rfl
    | some o' => exact absurd (Heap.lt_size e) (Nat.not_lt.mpr ha)
  have fr0 : ∀ a, s2.heap.get? a = none → s0.heap.get? a = none := fun a ha => by
    cases e : s0.heap.get? a with
    | none => rfl
    | some o' => have := k2 _ _ e; rw [ha] at this; cases this
  have nD := fr2 _ (Nat.le_refl s2.heap.objs.size)
  have nC := fr2 H2.objs.size (by rw [hC]; exact Nat.le_succ _)
  have hDI : s2.heap.objs.size ≠ I := fun q => by rw [q] at nD; rw [nD] at hoI; cases hoI
  have hCI : I ≠ H2.objs.size := fun q => by rw [← q] at nC; rw [nC] at hoI; cases hoI
  have hne : ∀ y, (∃ o, s0.heap.get? y = some o) → y ≠ I ∧ y ≠ H2.objs.size ∧ y ≠ s2.heap.objs.size := fun y ⟨o, hy⟩ => by
    refine ⟨fun q => ?_, fun q => ?_, fun q => ?_⟩ <;> subst q
    · rw [n0] at hy; cases hy
    · rw [fr0 _ nC] at hy; cases hy
    · rw [fr0 _ nD] at hy; cases hy
  have gk : Keep (G X s0.heap) (G (I :: H2.objs.size :: s2.heap.objs.size :: X) h₁) := fun b o eb => by
    have e0' := g_sub _ _ eb
    obtain ⟨q1, q2, q3⟩ := hne b ⟨o, e0'⟩
    refine g_get (old _ _ (k2 _ _ e0')) fun q => ?_
    simp only [List.mem_cons] at q
    rcases q with q | q | q | q
    · exact q1 q
    · exact q2 q
    · exact q3 q
    · exact g_not eb q
  have nX : ∀ a, s0.heap.get? a = none → a ∉ X := fun a ha => e0.fresh ha
  refine go h₁ s2.heap.objs.size (compEnvC scope (clo env.cells scope.names []) H2.objs.size env) _ (fr0 _ nD) (fr0 _ nC) hDC hDI hCI rfl old ?_ ?_ gk hacc
  · refine ⟨?_, show scope.kind = .function from okSc_kind hsc, e0.glob, e0.bui, e0.room, by simp [compEnvC], fun y hy => ?_, e0.top.keep gk, e0.hok.keep gk, _, hns₁, fun y d q => ?_⟩
    · show relabel scope env = _; rw [relabel_is, e0.scope]
    · simp only [List.mem_cons] at hy
      rcases hy with rfl | rfl | rfl | hy
      · exact ⟨_, old _ _ hoI⟩
      · obtain ⟨o, _, _, ho, _⟩ := hns₁; exact ⟨o, ho⟩
      · obtain ⟨n, ho⟩ := hacc; exact ⟨_, ho⟩
      · obtain ⟨o, ho⟩ := e0.has y hy; exact ⟨o, old _ _ (k2 _ _ ho)⟩
    · obtain ⟨c1, c2, c3, c4⟩ := cap.cap y d q
      obtain ⟨m, _, l⟩ := e0.loc
      obtain ⟨v, r, z⟩ := l y d c1
      have kind : env.kindOf y = some .cell := by show env.scope.names.lookup y = _; rw [e0.scope]; exact c3
      rcases z with ⟨z1, _⟩ | ⟨_, c, z2, z3⟩
      · rw [kind] at z1; cases z1
      · refine ⟨v, r.keep gk, .inr ⟨.inl ?_, c, clo_lookup z2 _ _ (.inr c2), z3.keeps gk⟩⟩
        show (relabel scope env).names.lookup y = _
        rw [relabel_is, e0.scope]; exact c4
  · exact io.frame _ _ _ [] old.chg (fun y hy => (nomatch hy)) p2

theorem cap_clo {scope : Scope} {A : Around} {env : PySem.Env} {X : List Addr} {h : Heap} {τ : Env} (cap : Cap sc scope σ τ) (e0 : EnvOK W b sc A env σ X h) : closureFor scope env = pure (clo env.cells scope.names []) :=
  closure_is fun x hx hf => by
    obtain ⟨d, hd⟩ := cap.all x hx hf
    obtain ⟨c1, c2, c3, c4⟩ := cap.cap _ _ hd
    obtain ⟨m, _, l⟩ := e0.loc
    obtain ⟨v, r, z⟩ := l _ _ c1
    have kind : env.kindOf x.1 = some .cell := by show env.scope.names.lookup x.1 = _; rw [e0.scope]; exact c3
    rcases z with ⟨z1, _⟩ | ⟨_, c, z2, z3⟩
    · rw [kind] at z1; cases z1
    · exact ⟨c, z2⟩

theorem rvs_out {g g' : Heap} {Y X : List Addr} {vs : List Value} {ds : List D} (h : RVs W (G Y g) vs ds) (k : ∀ b o, b ∉ Y → g.get? b = some o → g'.get? b = some o) (l : ∀ b ∈ X, b ∈ Y) : RVs W (G X g') vs ds :=
  h.keep fun b o e => g_get (k b o (g_not e) (g_sub _ _ e)) fun q => g_not e (l b q)
theorem relab_x {scope : Scope} {x : Str} (h : scope.names.lookup x = some .local) : (relab scope sc).names.lookup x = some .local := by
  have := lookup_relabel_local (env := { scope := sc, locals := 0, globals := 0, cells := [], qual := Str.ofString "", func := none, code := .none, frame := none, builtins := 0 }) h
  exact this

theorem EnvOK.drop {A : Around} {env : PySem.Env} {X : List Addr} {h h' : Heap} {C : Addr} (e : EnvOK W b sc A env σ (C :: X) h) (c : Chg [C] h h') (n : C ≠ env.locals) (nX : C ∉ X) (i : env.locals ∈ X) : EnvOK W b sc A env σ X h' := by
  have g : Keep (G (C :: X) h) (G X h') := fun b o eb => by
    have q := g_not eb
    simp only [List.mem_cons, not_or] at q
    exact g_get (c b o (by simpa using q.1) (g_sub _ _ eb)) q.2
  obtain ⟨m, ⟨o, es, ep, ho, r⟩, l⟩ := e.loc
  refine ⟨e.scope, e.kind, e.glob, e.bui, e.room, i, fun x hx => ?_, e.top.keep g, e.hok.keep g, m, ⟨o, es, ep, c _ _ (by simpa using Ne.symm n) ho, r⟩, fun x d q => (l x d q).keep g⟩
  obtain ⟨o, ho⟩ := e.has x (.tail _ hx)
  exact ⟨o, c _ _ (by simp; rintro rfl; exact nX hx) ho⟩

/-- a comprehension, as a value -/
theorem ev_comp {elt it : Expr} {x : Str} {px : Pos} {ifs : List Expr} {scope : Scope} {pos : Pos} {c : D} {ds rs : List D} {τ : Env} (h1 : Ev W b sc σ it c) (hi : Itr W b c ds) (cp : Cp W b (relab scope sc) τ elt x ifs ds rs) (cap : Cap sc scope σ τ) (hsc : okSc scope x = true) (hn : ds.length ≤ 1000)
    (hs : ∀ env v, foldedSetIterable it env v = pure v)
    (ht : ∀ I ac env, compTurn (.ListComp elt [⟨.Name x px, it, ifs, 0⟩] scope pos) 0 I ac env = (do
      standAt it.pos
      match ← pyNext I with
      | none => pure (.done .next)
      | some v =>
        letOwnedTupleGo (.Name x px) I v
        assign (.Name x px) env v
        let mut ok := true
        for c in ifs do
          if ok then ok ← isTrue c env (eval c env)
        if ok then
          (do let _ ← call (.builtin "list.append") [ac, ← eval elt env])
        again (.compLoop (.ListComp elt [⟨.Name x px, it, ifs, 0⟩] scope pos) 0 I ac env))) :
    Ev W b sc σ (.ListComp elt [⟨.Name x px, it, ifs, 0⟩] scope pos) (.lst rs) := .mk fun A env X s Q E e h => by
  rw [eval_ListComp]
  refine wpAny_comprehension_free (use := none) rfl (hs env) (cap_clo cap e) (okSc_kind hsc) (okSc_names hsc) (h1.go A env X s _ _ e fun u h₁ t₁ k₁ r₁ => hi.go A X _ u _ _ (e.keep k₁).cx r₁ fun I P h₂ t₂ n0 k₂ p₂ io => ?_)
  refine comp_lay (s0 := { s with heap := h₁, toks := t₁ }) (s2 := { s with heap := h₂, toks := t₂ }) (RR := fun acc C => compPost (model W.prog W.w) A E none Q acc C) hsc cap (e.keep k₁) n0 k₂ p₂ io fun h₃ Da cenv t₃ nD nC hDC hDI hIC _ k₃ e₃ p₃ gk pl => ?_
  have loop := comp_in (A := A) (W := W) (b := b) (s := { s with heap := h₃, toks := t₃ }) (R := fun r s' => compPost (model W.prog W.w) A E none Q (.ref Da) cenv.locals r s') (depth := 0) (cenv := cenv) (Da := Da) (acc := []) (gens := [⟨.Name x px, it, ifs, 0⟩]) (scp := scope) (cpos := pos) (ip := it.pos) (px := px) ht (relab_x (okSc_x hsc)) cp io
    (fun y hy => by
      simp at hy
      rcases hy with rfl | rfl
      · exact .inr ⟨nC, Ne.symm hIC⟩
      · exact .inr ⟨nD, hDI⟩) (fun y hy => by simp [hy]) (by simp) (by simp) hDC hDI hIC (by simpa using hn) e₃ p₃ gk pl .nil
    (fun h₄ t₄ items τ' e₄ _ pl₄ r₄ c₄ => ?_)
  · exact codeAny_compStart_list loop (io.self 0 _ _ _ p₃ loop)
  · obtain ⟨m, hm, _⟩ := e₄.loc
    refine ⟨m, hm, fun h₅ hs₅ => ?_⟩
    have up : ∀ b o, b ∉ [cenv.locals, Da, I] → h₃.get? b = some o → h₅.get? b = some o := fun b o hb eb => hs₅.extBut b o (by simp at hb; exact hb.1) (c₄ b o hb eb)
    have kk : Keep s.heap h₅ := fun b o eb => by
      have q := k₁ _ _ eb
      refine up b o ?_ (k₃ _ _ (k₂ _ _ q))
      simp only [List.mem_cons, List.not_mem_nil, or_false]
      rintro (z | z | z) <;> subst z
      · rw [nC] at q; cases q
      · rw [nD] at q; cases q
      · rw [n0] at q; cases q
    obtain ⟨n, plq⟩ := pl₄
    refine h (.ref Da) h₅ _ kk (.lst (vs := items.toList) ⟨n, g_get ?_ ((e.keep k₁).fresh nD)⟩ (rvs_out r₄ (fun b o hb eb => hs₅.extBut b o (fun q => hb (by simp [q])) eb) fun b hb => by simp [hb]))
    exact hs₅.extBut _ _ hDC plq

/-- a comprehension, stored -/
theorem x1_comp {elt it : Expr} {x y : Str} {px py : Pos} {ifs : List Expr} {scope : Scope} {pos spos : Pos} {c : D} {ds rs : List D} {τ : Env} (h1 : Ev W b sc σ it c) (hi : Itr W b c ds) (cp : Cp W b (relab scope sc) τ elt x ifs ds rs) (cap : Cap sc scope σ τ) (hsc : okSc scope x = true) (hn : ds.length ≤ 1000)
    (hs : ∀ env v, foldedSetIterable it env v = pure v) (hy : sc.names.lookup y = some .local)
    (hsw : ∀ env : PySem.Env, env.scope = sc → swapsWith (.ListComp elt [⟨.Name x px, it, ifs, 0⟩] scope pos) (some (.Name y py)) spos.line env = pure true)
    (ht : ∀ I ac env, compTurn (.ListComp elt [⟨.Name x px, it, ifs, 0⟩] scope pos) 0 I ac env = (do
      standAt it.pos
      match ← pyNext I with
      | none => pure (.done .next)
      | some v =>
        letOwnedTupleGo (.Name x px) I v
        assign (.Name x px) env v
        let mut ok := true
        for c in ifs do
          if ok then ok ← isTrue c env (eval c env)
        if ok then
          (do let _ ← call (.builtin "list.append") [ac, ← eval elt env])
        again (.compLoop (.ListComp elt [⟨.Name x px, it, ifs, 0⟩] scope pos) 0 I ac env))) :
    X1 W b sc σ (.Assign [.Name y py] (.ListComp elt [⟨.Name x px, it, ifs, 0⟩] scope pos) spos) (.nxt ((y, .lst rs) :: σ)) := .mk fun A env X s Q E e h => by
  rw [exec_Assign_Name_used _ _ _ _ (hsw env e.scope)]
  refine wpAny_bind (wpAny_standAt (wpAny_bind ?_))
  show wpAny _ A (do let _ ← comprehension (.ListComp elt [⟨.Name x px, it, ifs, 0⟩] scope pos) scope env _ (newList []) false (eval it env) (some (assign (.Name y py) env))) _ _ s
  refine wpAny_bind (wpAny_mono (wpAny_comprehension_free (use := some (assign (.Name y py) env)) (Q := fun _ s' => Q .next s') rfl (hs env) (cap_clo cap e) (okSc_kind hsc) (okSc_names hsc)
    (h1.go A env X s _ _ e fun u h₁ t₁ k₁ r₁ => hi.go A X _ u _ _ (e.keep k₁).cx r₁ fun I P h₂ t₂ n0 k₂ p₂ io => ?_)) (fun _ s' hq => wpAny_pure (wpAny_pure hq)) fun _ _ e => e)
  refine comp_lay (s0 := { s with heap := h₁, toks := t₁ }) (s2 := { s with heap := h₂, toks := t₂ }) (RR := fun acc C => compPost (model W.prog W.w) A E (some (assign (.Name y py) env)) (fun _ s' => Q .next s') acc C) hsc cap (e.keep k₁) n0 k₂ p₂ io fun h₃ Da cenv t₃ nD nC hDC hDI hIC _ k₃ e₃ p₃ gk pl => ?_
  have loop := comp_in (A := A) (W := W) (b := b) (s := { s with heap := h₃, toks := t₃ }) (R := fun r s' => compPost (model W.prog W.w) A E (some (assign (.Name y py) env)) (fun _ s' => Q .next s') (.ref Da) cenv.locals r s') (depth := 0) (cenv := cenv) (Da := Da) (acc := []) (gens := [⟨.Name x px, it, ifs, 0⟩]) (scp := scope) (cpos := pos) (ip := it.pos) (px := px) ht (relab_x (okSc_x hsc)) cp io
    (fun y hy => by
      simp at hy
      rcases hy with rfl | rfl
      · exact .inr ⟨nC, Ne.symm hIC⟩
      · exact .inr ⟨nD, hDI⟩) (fun y hy => by simp [hy]) (by simp) (by simp) hDC hDI hIC (by simpa using hn) e₃ p₃ gk pl .nil
    (fun h₄ t₄ items τ' e₄ _ pl₄ r₄ c₄ => ?_)
  · exact codeAny_compStart_list loop (io.self 0 _ _ _ p₃ loop)
  · obtain ⟨m, hm, _⟩ := e₄.loc
    obtain ⟨n, plq⟩ := pl₄
    have up : ∀ b o, b ∉ [cenv.locals, Da, I] → h₃.get? b = some o → h₄.get? b = some o := c₄
    have kk : Keep s.heap h₄ := fun b o eb => by
      have q := k₁ _ _ eb
      refine up b o ?_ (k₃ _ _ (k₂ _ _ q))
      simp only [List.mem_cons, List.not_mem_nil, or_false]
      rintro (z | z | z) <;> subst z
      · rw [nC] at q; cases q
      · rw [nD] at q; cases q
      · rw [n0] at q; cases q
    have lC : cenv.locals ≠ env.locals := fun q => by
      obtain ⟨m, ⟨o, _, _, ho, _⟩, _⟩ := (e.keep k₁).loc
      rw [← q] at ho; rw [nC] at ho; cases ho
    obtain ⟨oC, _, _, hoC, _⟩ := id hm
    have e4 : EnvOK W b sc A env σ (cenv.locals :: X) h₄ := (e.keep k₁).more (fun b o eb => by
      refine up b o ?_ (k₃ _ _ (k₂ _ _ eb))
      simp only [List.mem_cons, List.not_mem_nil, or_false]
      rintro (z | z | z) <;> subst z
      · rw [nC] at eb; cases eb
      · rw [nD] at eb; cases eb
      · rw [n0] at eb; cases eb) nC ⟨oC, hoC⟩
    have rD : RV W (G (cenv.locals :: X) h₄) (.ref Da) (.lst rs) := .lst (vs := items.toList) ⟨n, g_get plq (by
      simp only [List.mem_cons]
      rintro (q | q)
      · exact hDC q
      · exact (e.keep k₁).fresh nD q)⟩ (rvs_out r₄ (fun b o hb eb => eb) fun b hb => by
        simp only [List.mem_cons] at hb ⊢
        rcases hb with hb | hb
        · exact .inr (.inl hb)
        · exact .inr (.inr (.inr hb)))
    show wpAny _ A (assign (.Name y py) env (.ref Da)) _ _ _
    refine wpAny_assign_Name (store_ok e4 rD hy fun h₅ t₅ c₅ e₅ => ?_)
    have hm5 : h₅.Ns cenv.locals m := by
      obtain ⟨o, es, ep, ho, r⟩ := hm
      exact ⟨o, es, ep, c₅ _ _ (by simpa using lC) ho, r⟩
    refine ⟨m, hm5, fun h₆ hs₆ => ?_⟩
    have q6 : Chg [cenv.locals] h₅ h₆ := fun b o hb eb => hs₆.extBut b o (by simpa using hb) eb
    refine h .next h₆ _ (fun b o hb eb => ?_) ⟨rfl, e₅.drop q6 lC ((e.keep k₁).fresh nC) e.inX⟩
    have q := kk _ _ eb
    refine q6 b o (fun z => ?_) (c₅ b o hb q)
    simp at z; subst z
    have q' := k₁ _ _ eb
    rw [nC] at q'; cases q'
end
section
variable {W : Wd} {b : Nat} {sc : Scope} {σ : Env}

theorem compStart_1 {elt t1 i1 t2 i2 : Expr} {f1 f2 : List Expr} {scope : Scope} {pos : Pos} {it acc : Value} {env : PySem.Env} {A : Around} {R : Result → Shared → Prop} {s : Shared}
    (h0 : codeAny (model W.prog W.w) A (.compLoop (.ListComp elt [⟨t1, i1, f1, 0⟩, ⟨t2, i2, f2, 0⟩] scope pos) 1 it acc env) R s)
    (h : wpAny (model W.prog W.w) A (pyIter it) (fun it' s' => codeAny (model W.prog W.w) A (.compLoop (.ListComp elt [⟨t1, i1, f1, 0⟩, ⟨t2, i2, f2, 0⟩] scope pos) 1 it' acc env) R s')
      (notedBy (model W.prog W.w) A env fun x s' => R (.error x) s') s) :
    codeAny (model W.prog W.w) A (.compStart (.ListComp elt [⟨t1, i1, f1, 0⟩, ⟨t2, i2, f2, 0⟩] scope pos) 1 it acc env) R s := by
  refine codeAny_of_tree ?_
  show wpAny _ _ ((compStart (.ListComp elt [⟨t1, i1, f1, 0⟩, ⟨t2, i2, f2, 0⟩] scope pos) 1 it acc env).onRaise (fun x => do noteFrame x env; standAt theWindowsPlace)) _ _ s
  refine wpAny_notedAt ?_
  unfold compStart
  show wpAny _ _ (ask >>= _) _ _ s
  refine wpAny_bind (wpAny_askSetting (wpAny_ite ?_))
  split
  · first
      | exact wpAny_bind (wpAny_pure (wpAny_pure (And.intro rfl h0)))
      | exact wpAny_pure (And.intro rfl h0)
  · first
      | exact wpAny_bind (wpAny_rule (wpAny_bind (wpAny_standAt (wpAny_bind (wpAny_mono h (fun it' s' h' => wpAny_pure (And.intro rfl h')) fun _ _ x => x)))))
      | (refine wpAny_bind (wpAny_rule ?_); show wpAny _ _ (standAt i2.pos >>= _) _ _ s; exact wpAny_bind (wpAny_standAt (wpAny_bind (wpAny_mono h (fun it' s' h' => wpAny_pure (And.intro rfl h')) fun _ _ x => x))))

theorem compStart_1' {elt t1 i1 t2 i2 : Expr} {f1 f2 : List Expr} {scope : Scope} {pos : Pos} {it acc : Value} {env : PySem.Env} {A : Around} {R : Result → Shared → Prop} {s : Shared}
    (h0 : codeAny (model W.prog W.w) A (.compLoop (.ListComp elt [⟨t1, i1, f1, 0⟩, ⟨t2, i2, f2, 0⟩] scope pos) 1 it acc env) R s)
    (h : ∀ (Q E : Value → Shared → Prop), Q it s → wpAny (model W.prog W.w) A (pyIter it) Q E s) :
    codeAny (model W.prog W.w) A (.compStart (.ListComp elt [⟨t1, i1, f1, 0⟩, ⟨t2, i2, f2, 0⟩] scope pos) 1 it acc env) R s := compStart_1 h0 (h _ _ h0)

inductive Cp2 (W : Wd) (b : Nat) (sc : Scope) (elt : Expr) (x : Str) (it : Expr) (y : Str) : List D → List D → Prop
  | nil : Cp2 W b sc elt x it y [] []
  | cons {d c : D} {r es rs rs' : List D} : Ev W b sc [(x, d)] it c → Itr W b c es → Cp W b sc [(x, d)] elt y [] es rs → Cp2 W b sc elt x it y r rs' → Cp2 W b sc elt x it y (d :: r) (rs ++ rs')

theorem cp_len {τ : Env} {elt : Expr} {y : Str} {es rs : List D} (h : Cp W b sc τ elt y [] es rs) : rs.length = es.length := by
  induction h with
  | nil => rfl
  | skip q _ _ => cases q
  | take _ _ _ ih => simp [ih]

theorem comp_out {elt it it2 : Expr} {scp : Scope} {cpos : Pos} {x y : Str} {px py : Pos} {A : Around} {cenv : PySem.Env} {X X0 : List Addr} {h0 : Heap} {I Da : Addr} {P : Nat → Heap → Prop} {ds rs acc : List D} {s : Shared} {R : Result → Shared → Prop}
    (ht : ∀ I ac env, compTurn (.ListComp elt [⟨.Name x px, it, [], 0⟩, ⟨.Name y py, it2, [], 0⟩] scp cpos) 0 I ac env = (do
      standAt it.pos
      match ← pyNext I with
      | none => pure (.done .next)
      | some v =>
        letOwnedTupleGo (.Name x px) I v
        assign (.Name x px) env v
        let z ← eval it2 env
        standAt it2.pos
        let z ← foldedSetIterable it2 env z
        let _ ← runOwn (.compStart (.ListComp elt [⟨.Name x px, it, [], 0⟩, ⟨.Name y py, it2, [], 0⟩] scp cpos) 1 (← holding [z] (pyIter z)) ac env) env
        again (.compLoop (.ListComp elt [⟨.Name x px, it, [], 0⟩, ⟨.Name y py, it2, [], 0⟩] scp cpos) 0 I ac env)))
    (ht1 : ∀ J ac env, compTurn (.ListComp elt [⟨.Name x px, it, [], 0⟩, ⟨.Name y py, it2, [], 0⟩] scp cpos) 1 J ac env = (do
      standAt it2.pos
      match ← pyNext J with
      | none => pure (.done .next)
      | some v =>
        letOwnedTupleGo (.Name y py) J v
        assign (.Name y py) env v
        let mut ok := true
        for c in ([] : List Expr) do
          if ok then ok ← isTrue c env (eval c env)
        if ok then
          (do let _ ← call (.builtin "list.append") [ac, ← eval elt env])
        again (.compLoop (.ListComp elt [⟨.Name x px, it, [], 0⟩, ⟨.Name y py, it2, [], 0⟩] scp cpos) 1 J ac env)))
    (hs : ∀ env v, foldedSetIterable it2 env v = pure v)
    (hl : sc.names.lookup x = some .local) (hl2 : sc.names.lookup y = some .local) (cp : Cp2 W b sc elt x it2 y ds rs) (io : IterOK W A X0 h0 I ds P)
    (hY : ∀ y ∈ [cenv.locals, Da], y ∈ X0 ∨ (h0.get? y = none ∧ y ≠ I)) (hX : ∀ y ∈ X0, y ∈ X) (hI : I ∈ X) (hD : Da ∈ X) (hDC : Da ≠ cenv.locals) (hDI : Da ≠ I) (hIC : I ≠ cenv.locals) (hn : acc.length + rs.length ≤ 1000)
    (e0 : EnvOK W b sc A cenv [] X s.heap) (p0 : P 0 s.heap) (gk : Keep (G X0 h0) (G X s.heap)) {items : Array Value} (hpl : s.heap.PlainList Da items) (ra : RVs W (G X s.heap) items.toList acc)
    (hR : ∀ h' tk' items', EnvOK W b sc A cenv [] X h' → h'.PlainList Da items' → RVs W (G X h') items'.toList (acc ++ rs) → Chg [cenv.locals, Da, I] s.heap h' → R (.ok .next) { s with heap := h', toks := tk' }) :
    codeAny (model W.prog W.w) A (.compLoop (.ListComp elt [⟨.Name x px, it, [], 0⟩, ⟨.Name y py, it2, [], 0⟩] scp cpos) 0 (.ref I) (.ref Da) cenv) R s := by
  refine codeAny_loop rfl (fun k s' => ∃ i h' tk' items' acc' rs', s' = { s with heap := h', toks := tk' } ∧ k + i = ds.length ∧ P i h' ∧ Cp2 W b sc elt x it2 y (ds.drop i) rs' ∧ acc' ++ rs' = acc ++ rs ∧
    EnvOK W b sc A cenv [] X h' ∧ h'.PlainList Da items' ∧ RVs W (G X h') items'.toList acc' ∧ Chg [cenv.locals, Da, I] s.heap h') (fun k s' hI' => ?_) ds.length
    ⟨0, s.heap, s.toks, items, acc, rs, rfl, rfl, p0, cp, rfl, e0, hpl, ra, fun _ _ _ e => e⟩
  obtain ⟨i, h', tk', items', acc', rs', rfl, hk, hp, hcp, hcat, e', hpl', ra', c'⟩ := hI'
  show wpAny _ A ((compTurn (.ListComp elt [⟨.Name x px, it, [], 0⟩, ⟨.Name y py, it2, [], 0⟩] scp cpos) 0 (.ref I) (.ref Da) cenv).onRaise (fun x => do noteFrame x cenv; theTreesLotGoes x)) _ _ _
  refine wpAny_noted ?_
  rw [ht]
  have inX3 : ∀ y ∈ [cenv.locals, Da, I], y ∈ X := fun y q => by
    simp only [List.mem_cons, List.not_mem_nil, or_false] at q
    rcases q with rfl | rfl | rfl
    · exact e0.inX
    · exact hD
    · exact hI
  have gk' : Keep (G X0 h0) (G X h') := gk.trans (g_chg (c'.mono inX3))
  have toX : ∀ {Y : List Addr} {h1 h2 : Heap}, (∀ y ∈ Y, y ∈ X) → Chg Y h1 h2 → Chg X h1 h2 := fun hy c => c.mono hy
  refine wpAny_bind (wpAny_standAt (wpAny_bind ?_))
  rcases Nat.lt_or_ge i ds.length with hlt | hge
  · rw [List.drop_eq_getElem_cons hlt] at hcp
    cases hcp with
    | @cons _ c _ es rs₁ rs₂ hev hit hcp2 hr =>
    refine io.next i ds[i] (List.getElem?_eq_getElem hlt) _ _ _ hp fun v h₁ t₁ hp₁ c₁ r₁ => ?_
    have cI : Chg X h' h₁ := c₁.mono fun y q => by simp at q; subst q; exact hI
    have e1 : EnvOK W b sc A cenv [] X h₁ := e'.turn c₁ hI hIC (io.has _ _ hp₁)
    have pl1 : h₁.PlainList Da items' := hpl'.at fun o eo => c₁ _ _ (by simpa using hDI) eo
    have ra1 : RVs W (G X h₁) items'.toList acc' := ra'.keep (g_chg cI)
    refine wpAny_bind (wpAny_of_eq (a := ()) rfl ?_)
    refine wpAny_bind (wpAny_assign_Name (store_ok e1 (r₁.keep (gk'.trans (g_chg cI))) hl fun h₂ t₂ c₂ e₂ => ?_))
    have cC : Chg X h₁ h₂ := c₂.mono fun y q => by simp at q; subst q; exact e0.inX
    have e2 : EnvOK W b sc A cenv [(x, ds[i])] X h₂ := e₂
    have pl2 : h₂.PlainList Da items' := pl1.at fun o eo => c₂ _ _ (by simpa using hDC) eo
    have ra2 : RVs W (G X h₂) items'.toList acc' := ra1.keep (g_chg cC)
    have hp2 : P (i + 1) h₂ := io.frame _ _ _ [cenv.locals] c₂ (fun y hy => hY y (by simp at hy; simp [hy])) hp₁
    refine wpAny_bind (hev.go A cenv X _ _ _ e2 fun z h₃ t₃ k₃ r₃ => ?_)
    refine wpAny_bind (wpAny_standAt (wpAny_bind (wpAny_of_eq (hs _ _) (wpAny_bind (wpAny_holding (hit.go A X _ z _ _ (e2.keep k₃).cx r₃ fun I2 P2 h₄ t₄ n4 k₄ p₄ io₄ => ?_))))))
    refine wpAny_bind (wpAny_runOwn ?_)
    have e3 := e2.keep k₃
    have e4 : EnvOK W b sc A cenv [(x, ds[i])] (I2 :: X) h₄ := e3.more k₄ n4 (io₄.has _ _ p₄)
    have nI2 : I2 ∉ X := e3.fresh n4
    have pl3 : h₃.PlainList Da items' := pl2.at fun o eo => k₃ _ _ eo
    have pl4 : h₄.PlainList Da items' := pl3.at fun o eo => k₄ _ _ eo
    have g34 : Keep (G X h₃) (G (I2 :: X) h₄) := g_more k₄.chg n4
    have dI2 : Da ≠ I2 := fun q => by obtain ⟨n, q'⟩ := pl3; rw [q, n4] at q'; cases q'
    have lI2 : I2 ≠ cenv.locals := fun q => nI2 (q ▸ e0.inX)
    have hIne : I2 ≠ I := fun q => by
      obtain ⟨o, ho⟩ := io.has _ _ (io.frame _ _ _ [] k₃.chg (fun y hy => (nomatch hy)) hp2)
      rw [← q, n4] at ho; cases ho
    have hI2 : I2 ∈ X0 ∨ (h0.get? I2 = none ∧ I2 ≠ I) := by
      by_cases q : I2 ∈ X0
      · exact .inl q
      · right
        refine ⟨?_, hIne⟩
        cases z : h0.get? I2 with
        | none => rfl
        | some o =>
          have := g_sub _ _ ((((gk'.trans (g_chg cI)).trans (g_chg cC)).trans (g_keep k₃)) _ _ (g_get z q))
          rw [n4] at this; cases this
    have hlen : acc'.length + es.length ≤ 1000 := by
      have := congrArg List.length hcat
      simp only [List.length_append] at this
      have := cp_len hcp2
      omega
    refine compStart_1' (comp_in (A := A) (W := W) (b := b) (X := I2 :: X) (X0 := X) (s := { s with heap := h₄, toks := t₄ }) (depth := 1) (cenv := cenv) (Da := Da) (acc := acc') (gens := [⟨.Name x px, it, [], 0⟩, ⟨.Name y py, it2, [], 0⟩]) (scp := scp) (cpos := cpos) (ip := it2.pos) (px := py) ht1 hl2 hcp2 io₄
      (fun y hy => .inl (by
        simp at hy
        rcases hy with rfl | rfl
        · exact e0.inX
        · exact hD)) (fun y hy => by simp [hy]) (by simp) (by simp [hD]) hDC dI2 lI2 hlen e4 p₄ g34 pl4 ((ra2.keep (g_keep k₃)).keep g34)
      (fun h₅ t₅ items₅ τ₅ e₅ _ pl₅ r₅ c₅ => ?_)) (fun Q E q => io₄.self 0 _ Q E p₄ q)
    · have k24 : Keep h₂ h₄ := k₃.trans k₄
      have c35 : Chg [cenv.locals, Da, I] h₃ h₅ := fun b o hb eb => c₅ b o (by
        simp only [List.mem_cons, List.not_mem_nil, or_false, not_or] at hb ⊢
        refine ⟨hb.1, hb.2.1, fun q => ?_⟩
        subst q
        rw [n4] at eb; cases eb) (k₄ _ _ eb)
      refine wpAny_pure ⟨rfl, k - 1, by omega, i + 1, h₅, t₅, items₅, acc' ++ rs₁, rs₂, rfl, by omega, ?_, hr, by rw [List.append_assoc]; exact hcat, ((e₅.less e0.inX).sub fun y d q => by cases q), pl₅, r₅.keep g_tail, ?_⟩
      · refine io.frame _ _ _ [cenv.locals, Da, I2] c₅ (fun y hy => ?_) (io.frame _ _ _ [] k24.chg (fun y hy => (nomatch hy)) hp2)
        simp only [List.mem_cons, List.not_mem_nil, or_false] at hy
        rcases hy with rfl | rfl | rfl
        · exact hY _ (by simp)
        · exact hY _ (by simp)
        · exact hI2
      · exact (((c'.trans (c₁.mono fun y q => by simp at q; simp [q])).trans (c₂.mono fun y q => by simp at q; simp [q])).trans k₃.chg).trans c35
  · have hil : i = ds.length := by omega
    subst hil
    rw [List.drop_length] at hcp
    cases hcp
    refine io.stop _ _ _ hp (gk'.trans g_sub) fun h₁ t₁ c₁ hI₁ => wpAny_pure ?_
    rw [List.append_nil] at hcat
    subst hcat
    have cI : Chg X h' h₁ := c₁.mono fun y q => by simp at q; subst q; exact hI
    exact hR h₁ t₁ items' (e'.turn c₁ hI hIC hI₁) (hpl'.at fun o eo => c₁ _ _ (by simpa using hDI) eo) (ra'.keep (g_chg cI)) (c'.trans (c₁.mono fun y q => by simp at q; simp [q]))
theorem comp_start' {elt t1 i1 t2 i2 : Expr} {f1 f2 : List Expr} {scope : Scope} {pos : Pos} {it acc : Value} {env : PySem.Env} {A : Around} {R : Result → Shared → Prop} {s : Shared}
    (h0 : codeAny (model W.prog W.w) A (.compLoop (.ListComp elt [⟨t1, i1, f1, 0⟩, ⟨t2, i2, f2, 0⟩] scope pos) 0 it acc env) R s)
    (h : ∀ (Q E : Value → Shared → Prop), Q it s → wpAny (model W.prog W.w) A (pyIter it) Q E s) :
    codeAny (model W.prog W.w) A (.compStart (.ListComp elt [⟨t1, i1, f1, 0⟩, ⟨t2, i2, f2, 0⟩] scope pos) 0 it acc env) R s := codeAny_compStart_list h0 (h _ _ h0)

/-- a comprehension, stored -/
theorem x1_comp2 {elt it it2 : Expr} {x y z : Str} {px py pz : Pos} {scope : Scope} {pos spos : Pos} {c : D} {ds rs : List D} (h1 : Ev W b sc σ it c) (hi : Itr W b c ds) (cp : Cp2 W b (relab scope sc) elt x it2 z ds rs) (cap : Cap sc scope σ []) (hsc : okSc scope x = true) (hsc2 : okSc scope z = true) (hn : rs.length ≤ 1000)
    (hs : ∀ env v, foldedSetIterable it env v = pure v) (hs2 : ∀ env v, foldedSetIterable it2 env v = pure v) (hy : sc.names.lookup y = some .local)
    (hsw : ∀ env : PySem.Env, env.scope = sc → swapsWith (.ListComp elt [⟨.Name x px, it, [], 0⟩, ⟨.Name z pz, it2, [], 0⟩] scope pos) (some (.Name y py)) spos.line env = pure true)
    (ht : ∀ I ac env, compTurn (.ListComp elt [⟨.Name x px, it, [], 0⟩, ⟨.Name z pz, it2, [], 0⟩] scope pos) 0 I ac env = (do
      standAt it.pos
      match ← pyNext I with
      | none => pure (.done .next)
      | some v =>
        letOwnedTupleGo (.Name x px) I v
        assign (.Name x px) env v
        let u ← eval it2 env
        standAt it2.pos
        let u ← foldedSetIterable it2 env u
        let _ ← runOwn (.compStart (.ListComp elt [⟨.Name x px, it, [], 0⟩, ⟨.Name z pz, it2, [], 0⟩] scope pos) 1 (← holding [u] (pyIter u)) ac env) env
        again (.compLoop (.ListComp elt [⟨.Name x px, it, [], 0⟩, ⟨.Name z pz, it2, [], 0⟩] scope pos) 0 I ac env)))
    (ht1 : ∀ J ac env, compTurn (.ListComp elt [⟨.Name x px, it, [], 0⟩, ⟨.Name z pz, it2, [], 0⟩] scope pos) 1 J ac env = (do
      standAt it2.pos
      match ← pyNext J with
      | none => pure (.done .next)
      | some v =>
        letOwnedTupleGo (.Name z pz) J v
        assign (.Name z pz) env v
        let mut ok := true
        for c in ([] : List Expr) do
          if ok then ok ← isTrue c env (eval c env)
        if ok then
          (do let _ ← call (.builtin "list.append") [ac, ← eval elt env])
        again (.compLoop (.ListComp elt [⟨.Name x px, it, [], 0⟩, ⟨.Name z pz, it2, [], 0⟩] scope pos) 1 J ac env))) :
    X1 W b sc σ (.Assign [.Name y py] (.ListComp elt [⟨.Name x px, it, [], 0⟩, ⟨.Name z pz, it2, [], 0⟩] scope pos) spos) (.nxt ((y, .lst rs) :: σ)) := .mk fun A env X s Q E e h => by
  rw [exec_Assign_Name_used _ _ _ _ (hsw env e.scope)]
  refine wpAny_bind (wpAny_standAt (wpAny_bind ?_))
  show wpAny _ A (do let _ ← comprehension (.ListComp elt [⟨.Name x px, it, [], 0⟩, ⟨.Name z pz, it2, [], 0⟩] scope pos) scope env _ (newList []) false (eval it env) (some (assign (.Name y py) env))) _ _ s
  refine wpAny_bind (wpAny_mono (wpAny_comprehension_free (use := some (assign (.Name y py) env)) (Q := fun _ s' => Q .next s') rfl (hs env) (cap_clo cap e) (okSc_kind hsc) (okSc_names hsc)
    (h1.go A env X s _ _ e fun u h₁ t₁ k₁ r₁ => hi.go A X _ u _ _ (e.keep k₁).cx r₁ fun I P h₂ t₂ n0 k₂ p₂ io => ?_)) (fun _ s' hq => wpAny_pure (wpAny_pure hq)) fun _ _ e => e)
  refine comp_lay (s0 := { s with heap := h₁, toks := t₁ }) (s2 := { s with heap := h₂, toks := t₂ }) (RR := fun acc C => compPost (model W.prog W.w) A E (some (assign (.Name y py) env)) (fun _ s' => Q .next s') acc C) hsc cap (e.keep k₁) n0 k₂ p₂ io fun h₃ Da cenv t₃ nD nC hDC hDI hIC _ k₃ e₃ p₃ gk pl => ?_
  refine comp_start' (comp_out (A := A) (W := W) (b := b) (s := { s with heap := h₃, toks := t₃ }) (cenv := cenv) (Da := Da) (acc := []) (scp := scope) (cpos := pos) (px := px) ht ht1 hs2 (relab_x (okSc_x hsc)) (relab_x (okSc_x hsc2)) cp io
    (fun y hy => by
      simp at hy
      rcases hy with rfl | rfl
      · exact .inr ⟨nC, Ne.symm hIC⟩
      · exact .inr ⟨nD, hDI⟩) (fun y hy => by simp [hy]) (by simp) (by simp) hDC hDI hIC (by simpa using hn) e₃ p₃ gk pl .nil
    (fun h₄ t₄ items e₄ pl₄ r₄ c₄ => ?_)) (fun Q E q => io.self 0 _ Q E p₃ q)
  · obtain ⟨m, hm, _⟩ := e₄.loc
    obtain ⟨n, plq⟩ := pl₄
    have up : ∀ b o, b ∉ [cenv.locals, Da, I] → h₃.get? b = some o → h₄.get? b = some o := c₄
    have kk : Keep s.heap h₄ := fun b o eb => by
      have q := k₁ _ _ eb
      refine up b o ?_ (k₃ _ _ (k₂ _ _ q))
      simp only [List.mem_cons, List.not_mem_nil, or_false]
      rintro (z | z | z) <;> subst z
      · rw [nC] at q; cases q
      · rw [nD] at q; cases q
      · rw [n0] at q; cases q
    have lC : cenv.locals ≠ env.locals := fun q => by
      obtain ⟨m, ⟨o, _, _, ho, _⟩, _⟩ := (e.keep k₁).loc
      rw [← q] at ho; rw [nC] at ho; cases ho
    obtain ⟨oC, _, _, hoC, _⟩ := id hm
    have e4 : EnvOK W b sc A env σ (cenv.locals :: X) h₄ := (e.keep k₁).more (fun b o eb => by
      refine up b o ?_ (k₃ _ _ (k₂ _ _ eb))
      simp only [List.mem_cons, List.not_mem_nil, or_false]
      rintro (z | z | z) <;> subst z
      · rw [nC] at eb; cases eb
      · rw [nD] at eb; cases eb
      · rw [n0] at eb; cases eb) nC ⟨oC, hoC⟩
    have rD : RV W (G (cenv.locals :: X) h₄) (.ref Da) (.lst rs) := .lst (vs := items.toList) ⟨n, g_get plq (by
      simp only [List.mem_cons]
      rintro (q | q)
      · exact hDC q
      · exact (e.keep k₁).fresh nD q)⟩ (rvs_out r₄ (fun b o hb eb => eb) fun b hb => by
        simp only [List.mem_cons] at hb ⊢
        rcases hb with hb | hb
        · exact .inr (.inl hb)
        · exact .inr (.inr (.inr hb)))
    show wpAny _ A (assign (.Name y py) env (.ref Da)) _ _ _
    refine wpAny_assign_Name (store_ok e4 rD hy fun h₅ t₅ c₅ e₅ => ?_)
    have hm5 : h₅.Ns cenv.locals m := by
      obtain ⟨o, es, ep, ho, r⟩ := hm
      exact ⟨o, es, ep, c₅ _ _ (by simpa using lC) ho, r⟩
    refine ⟨m, hm5, fun h₆ hs₆ => ?_⟩
    have q6 : Chg [cenv.locals] h₅ h₆ := fun b o hb eb => hs₆.extBut b o (by simpa using hb) eb
    refine h .next h₆ _ (fun b o hb eb => ?_) ⟨rfl, e₅.drop q6 lC ((e.keep k₁).fresh nC) e.inX⟩
    have q := kk _ _ eb
    refine q6 b o (fun z => ?_) (c₅ b o hb q)
    simp at z; subst z
    have q' := k₁ _ _ eb
    rw [nC] at q'; cases q'
end
section
variable {W : Wd} {b : Nat} {sc : Scope} {σ : Env}

theorem bindL_other (ko : Str → Option NameKind) {x : Str} : ∀ (binds : List (Str × Value)) (m : Str → Option Value), x ∉ binds.map (·.1) → bindL ko binds m x = m x
  | [], m, _ => rfl
  | (n, v) :: r, m, h => by
    simp only [List.map_cons, List.mem_cons, not_or] at h
    unfold bindL
    rw [bindL_other ko r _ h.2]
    split
    · simp [h.1]
    · rfl
theorem bindC_other (ko : Str → Option NameKind) {x : Str} : ∀ (binds : List (Str × Value)) (m : Str → Option Value), x ∉ binds.map (·.1) → bindC ko binds m x = m x
  | [], m, _ => rfl
  | (n, v) :: r, m, h => by
    simp only [List.map_cons, List.mem_cons, not_or] at h
    unfold bindC
    rw [bindC_other ko r _ h.2]
    split
    · rfl
    · simp [h.1]
theorem bindL_get (ko : Str → Option NameKind) {x : Str} {v : Value} (k : ko x = some .local) : ∀ (binds : List (Str × Value)) (m : Str → Option Value), (binds.map (·.1)).Nodup → binds.lookup x = some v → bindL ko binds m x = some v
  | [], m, _, h => by simp at h
  | (n, w) :: r, m, nd, h => by
    simp only [List.map_cons, List.nodup_cons] at nd
    unfold bindL
    rw [List.lookup_cons] at h
    cases hb : x == n with
    | true =>
      rw [hb] at h; cases h
      have := beq_iff_eq.mp hb
      subst this
      rw [bindL_other ko r _ nd.1, if_pos k]
      simp
    | false => rw [hb] at h; exact bindL_get ko k r _ nd.2 h
theorem bindC_get (ko : Str → Option NameKind) {x : Str} {v : Value} (k : ko x = some .cell) : ∀ (binds : List (Str × Value)) (m : Str → Option Value), (binds.map (·.1)).Nodup → binds.lookup x = some v → bindC ko binds m x = some v
  | [], m, _, h => by simp at h
  | (n, w) :: r, m, nd, h => by
    simp only [List.map_cons, List.nodup_cons] at nd
    unfold bindC
    rw [List.lookup_cons] at h
    cases hb : x == n with
    | true =>
      rw [hb] at h; cases h
      have := beq_iff_eq.mp hb
      subst this
      rw [bindC_other ko r _ nd.1, if_neg (by rw [k]; simp)]
      simp
    | false => rw [hb] at h; exact bindC_get ko k r _ nd.2 h

theorem cf_acc : ∀ (l : List (Str × NameKind)) (n : Nat) (acc : List (Str × Addr)) (x : Str), ((acc.lookup x).isSome = true ∨ l.lookup x = some .cell) → ((cellsFrom n l acc).lookup x).isSome = true
  | [], n, acc, x, h => by
    rcases h with h | h
    · exact h
    · simp at h
  | (m, k) :: r, n, acc, x, h => by
    unfold cellsFrom
    by_cases hk : (k == NameKind.cell) = true
    · rw [if_pos hk]
      refine cf_acc r _ _ x ?_
      rw [List.lookup_cons] at h ⊢
      cases hb : x == m with
      | true => left; rfl
      | false =>
        rw [hb] at h
        exact h
    · rw [if_neg hk]
      refine cf_acc r _ _ x ?_
      rcases h with h | h
      · exact .inl h
      · rw [List.lookup_cons] at h
        cases hb : x == m with
        | true => rw [hb] at h; injection h with h; rw [h] at hk; simp at hk
        | false => rw [hb] at h; exact .inr h

theorem zip_get {g : Heap} : ∀ {ps : List Str} {vs : List Value} {ds : List D}, RVs W g vs ds → ∀ {x : Str} {d : D}, (ps.zip ds).lookup x = some d → ∃ v, (ps.zip vs).lookup x = some v ∧ RV W g v d ∧ x ∈ ps
  | [], _, _, _, x, d, h => by simp at h
  | p :: ps, _, _, .nil, x, d, h => by simp at h
  | p :: ps, _, _, .cons (v := v) r rs, x, d, h => by
    simp only [List.zip_cons_cons, List.lookup_cons] at h ⊢
    cases hb : x == p with
    | true => rw [hb] at h; cases h; exact ⟨v, rfl, r, by rw [beq_iff_eq.mp hb]; simp⟩
    | false =>
      rw [hb] at h
      obtain ⟨w, h1, h2, h3⟩ := zip_get rs h
      exact ⟨w, h1, h2, .tail _ h3⟩

/-- the checks of a def's scope -/
def okFn (sc : Scope) (ps : List Str) : Bool :=
  sc.kind == .function && sc.isCoroutine == false && sc.isGenerator == false && decide ps.Nodup && ps.all fun x => sc.names.lookup x == some .local || sc.names.lookup x == some .cell

structure OkFn (sc : Scope) (ps : List Str) : Prop where
  kind : sc.kind = .function
  co : sc.isCoroutine = false
  gen : sc.isGenerator = false
  nd : ps.Nodup
  all : ∀ x ∈ ps, sc.names.lookup x = some .local ∨ sc.names.lookup x = some .cell
theorem okFn_is {sc : Scope} {ps : List Str} (h : okFn sc ps = true) : OkFn sc ps := by
  simp only [okFn, Bool.and_eq_true, decide_eq_true_eq] at h
  obtain ⟨⟨⟨⟨h1, h2⟩, h3⟩, h4⟩, h5⟩ := h
  exact ⟨by simpa using h1, by simpa using h2, by simpa using h3, h4, fun x hx => by simpa using List.all_eq_true.mp h5 x hx⟩

/-- a def of the top is entered -/
theorem call_enter {k : Nat} {ps : List Str} {ds : List D} {A : Around} {X : List Addr} {s : Shared} {a : Addr} {vs : List Value} {Q E : Value → Shared → Prop} (hk : k < 92) (hd : (match stm k with | .FunctionDef .. => true | _ => false) = true) (hlen : ds.length = ps.length) (ok : OkFn (scopeS (stm k)) ps)
    (hbind : ∀ (pm cd doc : Value) (vs : List Value), vs.length = ps.length → bindArgs (docDef (nameS (stm k)) (argsS (stm k)) (bodyS (stm k)) (scopeS (stm k)) pm cd doc) ⟨vs, []⟩ = pure (ps.zip vs))
    (ha : W.mg (nameS (stm k)) = some (.ref a)) (cx : Cx W (b + 1) A X s.heap) (rs : RVs W (G X s.heap) vs ds)
    (go : ∀ (env : PySem.Env) (h₁ : Heap) (tk : Nat), EnvOK W b (scopeS (stm k)) (A.deeper env) env (ps.zip ds) (env.locals :: X) h₁ → env.frame = some env.locals → s.heap.get? env.locals = none → Keep s.heap h₁ →
      wpAny (model W.prog W.w) (A.deeper env) (execs (bodyS (stm k)) env) (fun f s' => Q (match f with | .ret v => v | _ => .none) s')
        (fun e s' => wpAny (model W.prog W.w) (A.deeper env) (leaving env e) (fun _ s'' => E e s'') (fun e' s'' => E e' s'') s') { s with heap := h₁, toks := tk }) :
    wpAny (model W.prog W.w) A (call (.ref a) vs) Q E s := by
  obtain ⟨f, c, o, pm, doc, f1, f2, f3, f4⟩ := cx.top.fn k hk hd
  rw [ha] at f1
  cases f1
  have hvs : vs.length = ps.length := rs.length.trans hlen
  have hmap : (ps.zip vs).map (·.1) = ps := List.map_fst_zip (by omega)
  refine wpAny_call (call_cells cx.room.depth (g_sub _ _ f2) f3 (cx.top.lim.keeps g_sub) (f4.keeps g_sub) (hbind _ _ _ _ hvs) (fun x hx => ?_) (fun h₁ tk F C => ?_) ok.co ok.gen ok.kind)
  · have hx' : x.1 ∈ ps := by have := List.mem_map_of_mem (f := (·.1)) hx; rw [hmap] at this; exact this
    rcases ok.all _ hx' with q | q
    · exact .inl q
    · exact .inr ⟨q, cf_acc _ _ _ _ (.inr q)⟩
  · have k1 : Keep s.heap h₁ := F.keep
    have nL : s.heap.get? s.heap.objs.size = none := none_of_size _
    have g : Keep (G X s.heap) (G (s.heap.objs.size :: X) h₁) := g_more k1.chg nL
    refine go (envOfC (nameS (stm k)) (scopeS (stm k)) s.heap.objs.size a (.ref c)) h₁ tk ⟨rfl, ok.kind, rfl, rfl, cx.room.deeper, by simp [envOfC], fun x hx => ?_, cx.top.keep g, cx.hok.keep g, _, F.ns, fun x d hx => ?_⟩ rfl nL k1
    · rcases List.mem_cons.mp hx with rfl | hx
      · obtain ⟨o, _, _, ho, _⟩ := F.ns; exact ⟨o, ho⟩
      · obtain ⟨o, ho⟩ := cx.has x hx; exact ⟨o, k1 _ _ ho⟩
    · obtain ⟨v, h1, h2, h3⟩ := zip_get rs hx
      refine ⟨v, h2.keep g, ?_⟩
      rcases ok.all x h3 with q | q
      · exact .inl ⟨q, bindL_get _ q _ _ (by rw [hmap]; exact ok.nd) h1⟩
      · have hs := cf_acc (scopeS (stm k)).names (s.heap.objs.size + 1) [] x (.inr q)
        obtain ⟨cc, hc⟩ := Option.isSome_iff_exists.mp hs
        refine .inr ⟨.inl q, cc, hc, ?_⟩
        have ic := C.cell x cc hc
        have ab := C.above x cc (mem_of_lookup hc)
        rw [bindC_get _ q _ _ (by rw [hmap]; exact ok.nd) h1] at ic
        obtain ⟨o', ho', hd'⟩ := ic
        refine ⟨o', g_get ho' fun hm => ?_, hd'⟩
        rcases List.mem_cons.mp hm with q | q
        · exact absurd (show cc = s.heap.objs.size from q) (Nat.ne_of_gt ab)
        · obtain ⟨o2, ho2⟩ := cx.has cc q
          exact absurd (Heap.lt_size ho2) (Nat.not_lt.mpr (Nat.le_of_lt ab))

theorem call_ok {k : Nat} {ps : List Str} {ds : List D} {d : D} {n : Str} (hk : k < 92) (hd : (match stm k with | .FunctionDef .. => true | _ => false) = true) (hlen : ds.length = ps.length) (ok : okFn (scopeS (stm k)) ps = true)
    (hbind : ∀ (pm cd doc : Value) (vs : List Value), vs.length = ps.length → bindArgs (docDef (nameS (stm k)) (argsS (stm k)) (bodyS (stm k)) (scopeS (stm k)) pm cd doc) ⟨vs, []⟩ = pure (ps.zip vs))
    (hn : nameS (stm k) = n) (hx : Xs W b (scopeS (stm k)) (ps.zip ds) (bodyS (stm k)) (.ret d)) : CallOK W (b + 1) n ds d := .mk ⟨k, hk, hd, hn⟩ fun A X s a vs Q E ha cx rs h => by
  subst hn
  refine call_enter hk hd hlen (okFn_is ok) hbind ha cx rs fun env h₁ tk e fr nL k1 => hx.go (A.deeper env) env _ _ _ _ e fun f h₂ t₂ c₂ o₂ => ?_
  obtain ⟨v, rfl, r⟩ := o₂
  refine h v h₂ t₂ (fun b o eb => c₂ b o (fun q => ?_) (k1 _ _ eb)) (r.keep g_tail)
  simp at q; subst q; rw [nL] at eb; cases eb
end
section
variable {W : Wd} {b : Nat} {sc : Scope} {σ : Env}

theorem isT {c : Bool} (h : c = true) : c = true := h
theorem isF {c : Bool} (h : c = false) : c = false := h
theorem decT {p : Prop} [Decidable p] (h : p) : decide p = true := decide_eq_true h
theorem decF {p : Prop} [Decidable p] (h : ¬ p) : decide p = false := decide_eq_false h
theorem beqT {x y : Int} (h : x = y) : (x == y) = true := beq_iff_eq.mpr h
theorem beqF {x y : Int} (h : ¬ x = y) : (x == y) = false := beq_eq_false_iff_ne.mpr h
theorem bneT {x y : Int} (h : ¬ x = y) : (x != y) = true := bne_iff_ne.mpr h
theorem bneF {x y : Int} (h : x = y) : (x != y) = false := by rw [h]; exact bne_self_eq_false ..

/-- what follows a statement -/
def Xk (W : Wd) (b : Nat) (sc : Scope) (o1 : Out) (r : List Stmt) (o : Out) : Prop := match o1 with
  | .nxt τ => Xs W b sc τ r o
  | .ret d => o = .ret d
theorem xk_nxt {τ : Env} {r : List Stmt} {o : Out} (h : Xs W b sc τ r o) : Xk W b sc (.nxt τ) r o := h
theorem xk_ret {d : D} {r : List Stmt} : Xk W b sc (.ret d) r (.ret d) := rfl
theorem xs_seq {st : Stmt} {r : List Stmt} {o1 o : Out} (h1 : X1 W b sc σ st o1) (h2 : Xk W b sc o1 r o) : Xs W b sc σ (st :: r) o := by
  cases o1 with
  | nxt τ => exact xs_cons h1 h2
  | ret d => cases h2; exact xs_ret h1

/-- an arm, by a test's outcome -/
def Ar (W : Wd) (b : Nat) (sc : Scope) (σ : Env) (c : Bool) (x y : List Stmt) (o : Out) : Prop := match c with
  | true => Xs W b sc σ x o
  | false => Xs W b sc σ y o
theorem ar_t {x y : List Stmt} {o : Out} (h : Xs W b sc σ x o) : Ar W b sc σ true x y o := h
theorem ar_f {x y : List Stmt} {o : Out} (h : Xs W b sc σ y o) : Ar W b sc σ false x y o := h
theorem x1_if {t : Expr} {x y : List Stmt} {p : Pos} {o : Out} {c : Bool} (ht : Ts W b sc σ t c) (h : Ar W b sc σ c x y o) : X1 W b sc σ (.If t x y p) o := by
  cases c with
  | true => exact x1_if_true ht h
  | false => exact x1_if_false ht h
def ArE (W : Wd) (b : Nat) (sc : Scope) (σ : Env) (c : Bool) (x y : Expr) (d : D) : Prop := match c with
  | true => Ev W b sc σ x d
  | false => Ev W b sc σ y d
theorem are_t {x y : Expr} {d : D} (h : Ev W b sc σ x d) : ArE W b sc σ true x y d := h
theorem are_f {x y : Expr} {d : D} (h : Ev W b sc σ y d) : ArE W b sc σ false x y d := h
theorem ev_if {t x y : Expr} {p : Pos} {d : D} {c : Bool} (ht : Ts W b sc σ t c) (h : ArE W b sc σ c x y d) : Ev W b sc σ (.IfExp t x y p) d := by
  cases c with
  | true => exact ev_if_true ht h
  | false => exact ev_if_false ht h

/-- the rest of a BoolOp's tests, by an outcome -/
def ArA (W : Wd) (b : Nat) (sc : Scope) (σ : Env) (c : Bool) (r : List Expr) (v : Bool) : Prop := match c with
  | true => Tss W b sc σ .And r v
  | false => v = false
theorem ara_t {r : List Expr} {v : Bool} (h : Tss W b sc σ .And r v) : ArA W b sc σ true r v := h
theorem ara_f {r : List Expr} : ArA W b sc σ false r false := rfl
theorem tss_and {x : Expr} {r : List Expr} {c v : Bool} (h1 : Ts W b sc σ x c) (h2 : ArA W b sc σ c r v) : Tss W b sc σ .And (x :: r) v := by
  cases c with
  | true => exact tss_and_go h1 h2
  | false => cases h2; exact tss_and_no h1
def ArO (W : Wd) (b : Nat) (sc : Scope) (σ : Env) (c : Bool) (r : List Expr) (v : Bool) : Prop := match c with
  | true => v = true
  | false => Tss W b sc σ .Or r v
theorem aro_t {r : List Expr} : ArO W b sc σ true r true := rfl
theorem aro_f {r : List Expr} {v : Bool} (h : Tss W b sc σ .Or r v) : ArO W b sc σ false r v := h
theorem tss_or {x : Expr} {r : List Expr} {c v : Bool} (h1 : Ts W b sc σ x c) (h2 : ArO W b sc σ c r v) : Tss W b sc σ .Or (x :: r) v := by
  cases c with
  | false => exact tss_or_go h1 h2
  | true => cases h2; exact tss_or_yes h1
def ArB (W : Wd) (b : Nat) (sc : Scope) (σ : Env) (c : Bool) (r : List Expr) (d : D) : Prop := match c with
  | true => Bos W b sc σ .And r d
  | false => d = .bool false
theorem arb_t {r : List Expr} {d : D} (h : Bos W b sc σ .And r d) : ArB W b sc σ true r d := h
theorem arb_f {r : List Expr} : ArB W b sc σ false r (.bool false) := rfl
theorem bos_and {x y : Expr} {r : List Expr} {c : Bool} {d : D} (h1 : Ev W b sc σ x (.bool c)) (h2 : ArB W b sc σ c (y :: r) d) : Bos W b sc σ .And (x :: y :: r) d := by
  cases c with
  | true => exact bos_and_go h1 h2
  | false => cases h2; exact bos_and_no h1

/-- while, by outcomes -/
def Wh (W : Wd) (b : Nat) (sc : Scope) (t : Expr) (body : List Stmt) (σ : Env) (o : Out) : Prop := ∃ n, Wl W b sc t body n σ o
def WhK (W : Wd) (b : Nat) (sc : Scope) (t : Expr) (body : List Stmt) (c : Bool) (σ : Env) (o : Out) : Prop := match c with
  | true => ∃ τ, Xs W b sc σ body (.nxt τ) ∧ Wh W b sc t body τ o
  | false => o = .nxt σ
theorem x1_wh {t : Expr} {body : List Stmt} {p : Pos} {o : Out} (h : Wh W b sc t body σ o) : X1 W b sc σ (.While t body [] p) o := let ⟨_, w⟩ := h; x1_while w
theorem wh_step {t : Expr} {body : List Stmt} {c : Bool} {o : Out} (ht : Ts W b sc σ t c) (hk : WhK W b sc t body c σ o) : Wh W b sc t body σ o := by
  cases c with
  | true => obtain ⟨τ, h1, n, h2⟩ := hk; exact ⟨n + 1, .turn ht h1 h2⟩
  | false => cases hk; exact ⟨0, .stop ht⟩
theorem whk_t {t : Expr} {body : List Stmt} {τ : Env} {o : Out} (h1 : Xs W b sc σ body (.nxt τ)) (h2 : Wh W b sc t body τ o) : WhK W b sc t body true σ o := ⟨τ, h1, h2⟩
theorem whk_f {t : Expr} {body : List Stmt} : WhK W b sc t body false σ (.nxt σ) := rfl

theorem call_ok' {k : Nat} {ps : List Str} {ds : List D} {d d' : D} {n : Str} (hn : nameS (stm k) = n) (hk : k < 92) (hd : (match stm k with | .FunctionDef .. => true | _ => false) = true) (hlen : ds.length = ps.length) (ok : okFn (scopeS (stm k)) ps = true)
    (hbind : ∀ (pm cd doc : Value) (vs : List Value), vs.length = ps.length → bindArgs (docDef (nameS (stm k)) (argsS (stm k)) (bodyS (stm k)) (scopeS (stm k)) pm cd doc) ⟨vs, []⟩ = pure (ps.zip vs))
    (hx : Xs W b (scopeS (stm k)) (ps.zip ds) (bodyS (stm k)) (.ret d')) (he : d' = d) : CallOK W (b + 1) n ds d := by subst he; exact call_ok hk hd hlen ok hbind hn hx
end

theorem len1 {p : List Value → Prop} (h : ∀ a, p [a]) : ∀ vs, vs.length = 1 → p vs
  | [a], _ => h a
theorem len2 {p : List Value → Prop} (h : ∀ a b, p [a, b]) : ∀ vs, vs.length = 2 → p vs
  | [a, b], _ => h a b
theorem len3 {p : List Value → Prop} (h : ∀ a b c, p [a, b, c]) : ∀ vs, vs.length = 3 → p vs
  | [a, b, c], _ => h a b c
theorem len4 {p : List Value → Prop} (h : ∀ a b c d, p [a, b, c, d]) : ∀ vs, vs.length = 4 → p vs
  | [a, b, c, d], _ => h a b c d
theorem CallOK.mono {W : Wd} {b b' : Nat} {f : Str} {ds : List D} {d : D} (c : CallOK W b f ds d) (h : b ≤ b') : CallOK W b' f ds d := .mk c.isfn fun A X s a vs Q E ha cx rs q => c.go A X s a vs Q E ha (cx.less h) rs q

/-- what is asked of the names of the top -/
structure Fa (W : Wd) : Prop where
  bi : ∀ x ∈ (["abs", "len", "max", "list", "tuple", "range", "Exception"] : List String).map Str.ofString, W.mg x = none
  one : Con W (Str.ofString "ONE") (.tup [.str (Str.ofString "num"), .int 1, .int 1])
  zero : Con W (Str.ofString "ZERO") (.tup [.str (Str.ofString "num"), .int 0, .int 1])
  tone : Con W (Str.ofString "T_ONE") (.tup [.str (Str.ofString "num"), .int 1, .int 1])
  bits : Con W (Str.ofString "MOST_BITS") (.int 200000)
  narrow : Con W (Str.ofString "MOST_NARROW") (.int 100)
  fact : Con W (Str.ofString "MOST_FACTORIAL") (.int 200)
  levels : Con W (Str.ofString "MOST_LEVELS") (.int 120)
  terms : Con W (Str.ofString "MOST_TERMS") (.int 20000)
  raw : Con W (Str.ofString "MOST_RAW") (.int 200000)

theorem Fa.bin {W : Wd} (F : Fa W) {x : Str} {v : Value} (h1 : x ∈ (["abs", "len", "max", "list", "tuple", "range", "Exception"] : List String).map Str.ofString) (h2 : x ≠ "__name__") (h3 : bootBuiltins x = some v) : Bi W x v := ⟨F.bi x h1, h2, h3⟩
section
variable {W : Wd} {b : Nat} {sc : Scope} {σ : Env}

theorem nomod_size {A : Around} {X : List Addr} {h : Heap} (c : Cx W b A X h) : (h.objs.size == sysModules) = false := by
  obtain ⟨o, _, _, ho, _⟩ := c.top.gl
  have h3 : (3 : Nat) < h.objs.size := Heap.lt_size (g_sub _ _ ho)
  rw [beq_eq_false_iff_ne]
  intro q
  have : h.objs.size = 1 := q
  omega

/-- {k: v} -/
theorem ev_dict1 {ke ve : Expr} {p : Pos} {k : Str} {d : D} (h1 : Ev W b sc σ ke (.str k)) (h2 : Ev W b sc σ ve d) : Ev W b sc σ (.Dict [some ke] [ve] p) (.dct k d) := .mk fun A env X s Q E e h => by
  refine wpAny_Dict_pairs (knd := strKind W.prog W.w) (pairs := [(eval ke env, do let x ← eval ve env; standAt p; pure x)]) rfl (by simp) (by simp) ?_
  have n0 := none_of_size s.heap
  have k0 : Keep s.heap (s.heap.push { cls := .type "dict", data := .dict #[] }) := fun _ _ e => Heap.get?_push_of_some _ e
  have hd0 : (s.heap.push { cls := .type "dict", data := .dict #[] }).DictOf (strKind W.prog W.w) s.heap.objs.size [] := Heap.DictOf.new _
  have e0 : EnvOK W b sc A env σ (s.heap.objs.size :: X) (s.heap.push { cls := .type "dict", data := .dict #[] }) := e.more k0 n0 ⟨_, Heap.get?_push_size _ rfl⟩
  refine evalPairs_cons (h1.go A env _ _ _ _ e0 fun u h₁ t₁ k₁ r₁ => wpAny_bind (h2.go A env _ _ _ _ (e0.keep k₁) fun v h₂ t₂ k₂ r₂ => wpAny_bind (wpAny_standAt (wpAny_pure (evalPairs_nil ?_)))))
  cases r₁ with
  | str _ t =>
    refine ⟨[(k, v)], ⟨strKind_is _ _ _ _, rfl, trivial⟩, (hd0.keep k₁).keep k₂, fun h' hd hs => ?_⟩
    have nm := nomod_size e.cx
    have nX := e.fresh n0
    have kk : Keep s.heap h' := fun b o eb => hs.extBut b o (fun q => by subst q; rw [n0] at eb; cases eb) (k₂ _ _ (k₁ _ _ (k0 _ _ eb)))
    obtain ⟨ep, hd⟩ := hd.dictAt
    refine h _ h' _ kk (.dct nm (ep := ep) (v := v) ?_ (r₂.keep fun b o eb => ?_))
    · obtain ⟨o, es, ho, r⟩ := hd
      exact ⟨o, es, g_get ho nX, r⟩
    · have q := g_not eb
      simp only [List.mem_cons, not_or] at q
      exact g_get (hs.extBut b o q.1 (g_sub _ _ eb)) q.2
/-- {} -/
theorem ev_dict0 {p : Pos} : Ev W b sc σ (.Dict [] [] p) .emp := .mk fun A env X s Q E e h => by
  have n0 := none_of_size s.heap
  refine wpAny_Dict_empty (h _ _ _ (fun _ _ e => Heap.get?_push_of_some _ e) ?_)
  obtain ⟨ep, hd⟩ := (Heap.DictOf.new (knd := strKind W.prog W.w) s.heap).dictAt
  obtain ⟨o, es, ho, r⟩ := hd
  exact .emp (nomod_size e.cx) (ep := ep) ⟨o, es, g_get ho (e.fresh n0), r⟩

/-- a built-in type's method, found -/
def Gm (W : Wd) (name : Str) (x : D) (id : String) : Prop :=
  ∀ (A : Around) (X : List Addr) (s : Shared) (u : Value) (pl : Sem Bool) (R : Value × List Value → Shared → Prop) (E : Value → Shared → Prop), RV W (G X s.heap) u x → R (.builtin id, [u]) s → wpAny (model W.prog W.w) A (getMethod u name pl) R E s
/-- a method of a built-in type, called -/
structure MetV (W : Wd) (b : Nat) (name : Str) (x : D) (ds : List D) (d : D) : Prop where
  ex : ∃ id, Gm W name x id ∧ CallV W b (.builtin id) (x :: ds) d

theorem dict_method {name : Str} {id : String} (slot : Slot "dict" name id) (hty : typeOf (.builtin id) = pure (.type "method_descriptor")) {x : D} (hx : x = .emp ∨ ∃ k d, x = .dct k d) : Gm W name x id := fun A X s' u pl R E' r h => by
  rcases hx with rfl | ⟨k, d, rfl⟩
  · cases r with
    | emp s q =>
      have hD := (q.keep g_sub).dictOf
      exact getMethod_builtin hD.typeIs F.plainAttrs_dict slot hty hD.mapOf.noDict h
  · cases r with
    | dct s q _ =>
      have hD := (q.keep g_sub).dictOf
      exact getMethod_builtin hD.typeIs F.plainAttrs_dict slot hty hD.mapOf.noDict h

theorem met_get {k k0 : Str} {d z r : D} (hr : (if k0 = k then d else z) = r) : MetV W b (Str.ofString "get") (.dct k0 d) [.str k, z] r := ⟨"dict.get", dict_method F.slot_dict_get F.type_dict_get (.inr ⟨_, _, rfl⟩), .mk fun A X s vs Q E cx rs h => by
  cases rs with
  | cons ru rs =>
  cases ru with
  | @dct a _ v _ ep nm q rd =>
    cases rs with
    | cons r1 rs => cases rs with
      | @cons zv _ _ _ r2 rs =>
        cases rs
        cases r1 with
        | str _ t =>
          have hD := (q.keep g_sub).dictOf
          refine call_meetsIn F.slot_dict_get hD.typeIs F.entry_dict_get (F.args_dict_get_3 _ _ _) (meets_dict_get_default (strKind W.prog W.w) a (strKind_is _ _ k t) nm zv) ⟨_, hD.mapOf, ?_⟩
          have e : valueAt [(k0, v)] k = if k0 = k then some v else none := by
            unfold valueAt
            by_cases q : k0 = k <;> simp [q]
          rw [e]
          refine h _ _ _ Keep.rfl' ?_
          subst hr
          by_cases q : k0 = k
          · rw [if_pos q, if_pos q]; exact rd
          · rw [if_neg q, if_neg q]; exact r2⟩
theorem met_get_hit {k : Str} {d z : D} : MetV W b (Str.ofString "get") (.dct k d) [.str k, z] d := met_get (if_pos rfl)

theorem met_items : MetV W b (Str.ofString "items") .emp [] .ems := ⟨"dict.items", dict_method F.slot_dict_items F.type_dict_items (.inl rfl), .mk fun A X s vs Q E cx rs h => by
  cases rs with
  | cons ru rs =>
  cases rs
  cases ru with
  | @emp a ep nm q =>
    have hD := (q.keep g_sub).dictOf
    refine call_meetsIn F.slot_dict_items hD.typeIs F.entry_dict_items (F.args_dict_items_1 _) (meets_dict_items (strKind W.prog W.w) a nm) ⟨⟨[], hD⟩, ?_⟩
    have k0 : Keep s.heap (s.heap.push { cls := .type "dict_items", data := .fields #[.ref a] }) := fun _ _ e => Heap.get?_push_of_some _ e
    exact h _ _ _ k0 (.ems nm (ep := ep) ⟨_, g_get (Heap.get?_push_size _ rfl) (cx.fresh (none_of_size _)), rfl, rfl⟩ (q.keep (g_keep k0)))⟩

/-- o.name(a, ..) -/
theorem ev_met {o a : Expr} {as : List Expr} {ap p : Pos} {n : Str} {x d : D} {ds : List D} (h1 : Ev W b sc σ o x) (h2 : Evs W b sc σ (a :: as) ds) (c : MetV W b n x ds d)
    (hs : ∀ env, starEach (a :: as) env = (false, eval a env) :: starEach as env) (hp : ∀ env, (backTo p (starEach as env)).any (·.1) = false)
    (hm : ∀ env : PySem.Env, ∃ pl : Sem Bool, eval ((o.Attribute n ap).Call (a :: as) [] p) env = (do
      let ov ← eval o env
      standAt ap.atName
      let (f, first) ← holding [ov] (getMethod ov n pl)
      callWith p f first (backTo p (starEach (a :: as) env)) [])) :
    Ev W b sc σ (.Call (.Attribute o n ap) (a :: as) [] p) d := .mk fun A env X s Q E e h => by
  obtain ⟨pl, he⟩ := hm env
  obtain ⟨id, gm, cv⟩ := c
  refine MethodCall_ (pl := pl) (he := he) (h1.go A env X s _ _ e fun u h₁ t₁ k₁ r₁ => gm A X _ u pl _ _ r₁ ?_)
  refine callWith_method1 (he := hs env) (hplain := hp env) (h2.go A env X _ p _ _ (e.keep k₁) fun vs h₂ t₂ k₂ r₂ => ?_)
  exact cv.go A X _ (u :: vs) _ _ ((e.keep k₁).keep k₂).cx (.cons (r₁.keep (g_keep k₂)) r₂) fun v h₃ t₃ k₃ r₃ => h v h₃ t₃ ((k₁.trans k₂).trans k₃) r₃
/-- o.name() -/
theorem ev_met0 {o : Expr} {ap p : Pos} {n : Str} {x d : D} (h1 : Ev W b sc σ o x) (c : MetV W b n x [] d)
    (hm : ∀ env : PySem.Env, ∃ pl : Sem Bool, eval ((o.Attribute n ap).Call [] [] p) env = (do
      let ov ← eval o env
      standAt ap.atName
      let (f, first) ← holding [ov] (getMethod ov n pl)
      callWith p f first (backTo p (starEach [] env)) [])) :
    Ev W b sc σ (.Call (.Attribute o n ap) [] [] p) d := .mk fun A env X s Q E e h => by
  obtain ⟨pl, he⟩ := hm env
  obtain ⟨id, gm, cv⟩ := c
  refine MethodCall_ (pl := pl) (he := he) (h1.go A env X s _ _ e fun u h₁ t₁ k₁ r₁ => gm A X _ u pl _ _ r₁ ?_)
  refine callWith_method0 ?_
  exact cv.go A X _ [u] _ _ (e.keep k₁).cx (.cons r₁ .nil) fun v h₃ t₃ k₃ r₃ => h v h₃ t₃ (k₁.trans k₃) r₃

/-- d[k] -/
theorem ev_item_dct {v i : Expr} {p : Pos} {k : Str} {d : D} (h1 : Ev W b sc σ v (.dct k d)) (h2 : Ev W b sc σ i (.str k)) (hs : ∀ o k, subscripted i false o k = operate [o, k] (getItem o k)) :
    Ev W b sc σ (.Subscript v i p) d := ev_item h1 h2 fun A X s u z Q E cx r1 r2 h => by
  cases r1 with
  | @dct a _ w _ ep nm q rd =>
    cases r2 with
    | str _ t =>
      have hD := (q.keep g_sub).dictOf
      have e : valueAt [(k, w)] k = some w := by unfold valueAt; simp
      exact tail_any hD.typeIs slot_dict_getitem.lookup (wpAny_getItem_of (strKind_is _ _ k t) hD.mapOf e (h w s.heap _ Keep.rfl' rd)) (hs _ _)

/-- range(a, b) -/
theorem cv_range {x y : Int} : CallV W b (.type "range") [.int x, .int y] (.rng x y) := .mk fun A X s vs Q E cx rs h => by
  cases rs with
  | cons r1 rs => cases rs with
    | cons r2 rs =>
      cases rs
      cases r1 with
      | int _ t => cases r2 with
        | int _ u => exact call_range_2 (h _ _ _ (fun _ _ e => Heap.get?_push_of_some _ e) (.rng (t := t) (u := u) (v := s.toks) (g_get (Heap.get?_push_size _ rfl) (cx.fresh (none_of_size _)))))

/-- for x, y in d.items(), without a turn -/
theorem x1_for0 {x y : Str} {px py pt p : Pos} {k : Nat} {it : Expr} {body : List Stmt} (h1 : Ev W b sc σ it .ems) (hs : ∀ env v, foldedSetIterable it env v = pure v) :
    X1 W b sc σ (.For (.Tuple [.Name x px, .Name y py] k pt) it body [] p) (.nxt σ) := .mk fun A env X s Q E e h =>
  wpAny_For (hs := hs env) (h1.go A env X s _ _ e fun u h₁ t₁ k₁ r₁ => itr_ems.go A X _ u _ _ (e.keep k₁).cx r₁ fun I P h₂ t₂ n0 k₂ p₂ io => by
    refine codeAny_of_tree ?_
    show wpAny _ A ((forTurn (.Tuple [.Name x px, .Name y py] k pt) (.ref I) body [] env).onRaise _) _ _ _
    refine wpAny_onRaise ?_
    unfold forTurn
    refine wpAny_bind (wpAny_standAt (wpAny_bind (wpAny_onRaise (io.stop _ _ _ p₂ (fun b o eb => k₂ _ _ (g_sub _ _ eb)) fun h₃ t₃ c₃ hI => ?_))))
    refine wpAny_pure ⟨rfl, codeAny_block (wpAny_execs_nil ?_)⟩
    have kk : Keep s.heap h₃ := fun b o eb => by
      have q := k₁ _ _ eb
      exact c₃ b o (fun z => by simp at z; subst z; rw [n0] at q; cases q) (k₂ _ _ q)
    exact h .next h₃ t₃ kk.chg ⟨rfl, e.keep kk⟩)
end
section
variable {W : Wd} {b : Nat} {sc : Scope} {σ : Env}

theorem lk_hd {x : Str} {d : D} {r : Env} : List.lookup x ((x, d) :: r) = some d := by simp
theorem lk_tl {x y : Str} {d e : D} {r : Env} (h : (y == x) = false) (h' : List.lookup y r = some d) : List.lookup y ((x, e) :: r) = some d := by rw [List.lookup_cons, h]; exact h'
theorem lk_zip {x y : Str} {p : List Str} {d e : D} {q : List D} (h' : List.lookup y ((x, e) :: p.zip q) = some d) : List.lookup y ((x :: p).zip (e :: q)) = some d := h'

theorem op_fmod1 {x : Int} : Op2 W b (binaryOp .Mod) (.int x) (.int 1) (.int 0) := by
  have := op_fmod (W := W) (b := b) (x := x) (y := 1) (by omega)
  rwa [Int.fmod_one] at this
theorem op_fdiv1 {x : Int} : Op2 W b (binaryOp .FloorDiv) (.int x) (.int 1) (.int x) := by
  have := op_fdiv (W := W) (b := b) (x := x) (y := 1) (by omega) (by
    unfold Builtin.divisionGoesByPylong
    have : (if ((1 : Int) == 0) = true then 0 else (1 : Int).natAbs.log2 / 30 + 1) = 1 := by decide
    simp only [this]
    rfl)
  rwa [Int.fdiv_one] at this
theorem op_mul1 {x : Int} : Op2 W b (binaryOp .Mult) (.int x) (.int 1) (.int x) := by
  have := op_mul (W := W) (b := b) (x := x) (y := 1) (.of_right (by decide))
  rwa [Int.mul_one] at this
theorem cv_abs1 : CallV W b (.builtin "abs") [.int 1] (.int 1) := cv_abs (x := 1)

inductive Nth : List D → Int → D → Prop
  | n0 {d : D} {r : List D} : Nth (d :: r) 0 d
  | n1 {a d : D} {r : List D} : Nth (a :: d :: r) 1 d
  | n2 {a b d : D} {r : List D} : Nth (a :: b :: d :: r) 2 d
theorem Nth.is {ds : List D} {i : Int} {d : D} (h : Nth ds i d) : ∃ n : Nat, i = (n : Int) ∧ ds[n]? = some d ∧ n < 1000 := by
  cases h
  · exact ⟨0, rfl, rfl, by omega⟩
  · exact ⟨1, rfl, rfl, by omega⟩
  · exact ⟨2, rfl, rfl, by omega⟩
inductive At : D → D → D → Prop
  | tup {ds : List D} {i : Int} {d : D} : Nth ds i d → At (.tup ds) (.int i) d
  | lst {ds : List D} {i : Int} {d : D} : Nth ds i d → At (.lst ds) (.int i) d
  | dct {k : Str} {d : D} : At (.dct k d) (.str k) d
theorem ev_at {v i : Expr} {p : Pos} {x y d : D} (h1 : Ev W b sc σ v x) (h2 : Ev W b sc σ i y) (a : At x y d) (hs : ∀ o k, subscripted i false o k = operate [o, k] (getItem o k)) : Ev W b sc σ (.Subscript v i p) d := by
  cases a with
  | tup n => obtain ⟨m, rfl, h3, h4⟩ := n.is; exact ev_item_tup h1 h2 h3 h4 hs
  | lst n => obtain ⟨m, rfl, h3, h4⟩ := n.is; exact ev_item_lst h1 h2 h3 h4 hs
  | dct => exact ev_item_dct h1 h2 hs

inductive Len : List D → Int → Prop
  | l0 : Len [] 0
  | l1 {a : D} : Len [a] 1
  | l2 {a b : D} : Len [a, b] 2
  | l3 {a b c : D} : Len [a, b, c] 3
  | l4 {a b c d : D} : Len [a, b, c, d] 4
  | l5 {a b c d e : D} : Len [a, b, c, d, e] 5
  | l6 {a b c d e f : D} : Len [a, b, c, d, e, f] 6
theorem Len.is {ds : List D} {i : Int} (h : Len ds i) : (ds.length : Int) = i ∧ ds.length ≤ 1000 := by cases h <;> simp
theorem cv_lenL {ds : List D} {i : Int} (h : Len ds i) : CallV W b (.builtin "len") [.lst ds] (.int i) := by rw [← h.is.1]; exact cv_len_lst h.is.2
theorem cv_lenT {ds : List D} {i : Int} (h : Len ds i) : CallV W b (.builtin "len") [.tup ds] (.int i) := by rw [← h.is.1]; exact cv_len_tup h.is.2

inductive App : List D → List D → List D → Prop
  | nil {l : List D} : App [] l l
  | cons {a : D} {l r q : List D} : App l r q → App (a :: l) r (a :: q)
theorem App.is {l r q : List D} (h : App l r q) : l ++ r = q := by
  induction h with
  | nil => rfl
  | cons _ ih => rw [List.cons_append, ih]
theorem op_app {l r q : List D} (h : App l r q) (n : l.length ≤ 1000) (m : r.length ≤ 1000) : Op2 W b (binaryOp .Add) (.lst l) (.lst r) (.lst q) := by rw [← h.is]; exact op_addL n m

inductive Nt : Bool → Bool → Prop
  | t : Nt true false
  | f : Nt false true
theorem ts_nt {x : Expr} {p : Pos} {c c' : Bool} (h1 : Ts W b sc σ x c) (h : Nt c c') : Ts W b sc σ (.UnaryOp .Not x p) c' := by
  have := ts_not (p := p) h1
  cases h <;> exact this

/-- a clause's item, by its tests' outcome -/
def CpK (W : Wd) (b : Nat) (sc : Scope) (τ : Env) (elt : Expr) (x : Str) (ifs : List Expr) (v : Bool) (d : D) (r rs : List D) : Prop := match v with
  | true => ∃ u rs', Ev W b sc ((x, d) :: τ) elt u ∧ Cp W b sc τ elt x ifs r rs' ∧ rs = u :: rs'
  | false => Cp W b sc τ elt x ifs r rs
theorem cp_step {τ : Env} {elt : Expr} {x : Str} {ifs : List Expr} {v : Bool} {d : D} {r rs : List D} (hif : If1 W b sc ((x, d) :: τ) ifs v) (hk : CpK W b sc τ elt x ifs v d r rs) : Cp W b sc τ elt x ifs (d :: r) rs := by
  cases v with
  | true => obtain ⟨u, rs', h1, h2, rfl⟩ := hk; exact .take hif h1 h2
  | false => exact .skip hif hk
theorem cpk_t {τ : Env} {elt : Expr} {x : Str} {ifs : List Expr} {u d : D} {r rs : List D} (h1 : Ev W b sc ((x, d) :: τ) elt u) (h2 : Cp W b sc τ elt x ifs r rs) : CpK W b sc τ elt x ifs true d r (u :: rs) := ⟨u, rs, h1, h2, rfl⟩
theorem cpk_f {τ : Env} {elt : Expr} {x : Str} {ifs : List Expr} {d : D} {r rs : List D} (h2 : Cp W b sc τ elt x ifs r rs) : CpK W b sc τ elt x ifs false d r rs := h2
theorem cp2_cons {elt it : Expr} {x y : Str} {d c : D} {r es rs rs' q : List D} (h1 : Ev W b sc [(x, d)] it c) (h2 : Itr W b c es) (h3 : Cp W b sc [(x, d)] elt y [] es rs) (h4 : Cp2 W b sc elt x it y r rs') (a : App rs rs' q) : Cp2 W b sc elt x it y (d :: r) q := by
  rw [← a.is]; exact .cons h1 h2 h3 h4

/-- the shape of a one-clause turn -/
def Turn1 (elt it : Expr) (x : Str) (px : Pos) (ifs : List Expr) (scope : Scope) (pos : Pos) : Prop :=
  ∀ I ac env, compTurn (.ListComp elt [⟨.Name x px, it, ifs, 0⟩] scope pos) 0 I ac env = (do
      standAt it.pos
      match ← pyNext I with
      | none => pure (.done .next)
      | some v =>
        letOwnedTupleGo (.Name x px) I v
        assign (.Name x px) env v
        let mut ok := true
        for c in ifs do
          if ok then ok ← isTrue c env (eval c env)
        if ok then
          (do let _ ← call (.builtin "list.append") [ac, ← eval elt env])
        again (.compLoop (.ListComp elt [⟨.Name x px, it, ifs, 0⟩] scope pos) 0 I ac env))
theorem turn1 {elt it : Expr} {x : Str} {px : Pos} {ifs : List Expr} {scope : Scope} {pos : Pos} : Turn1 elt it x px ifs scope pos := fun I ac env => rfl

theorem ev_lc {elt it : Expr} {x : Str} {px : Pos} {ifs : List Expr} {scope : Scope} {pos : Pos} {c : D} {ds rs : List D} {τ : Env} (h1 : Ev W b sc σ it c) (hi : Itr W b c ds) (cap : Cap sc scope σ τ) (hsc : okSc scope x = true) (hn : ds.length ≤ 1000)
    (hs : ∀ (env : PySem.Env) (v : Value), foldedSetIterable it env v = pure v) (cp : Cp W b (relab scope sc) τ elt x ifs ds rs) : Ev W b sc σ (.ListComp elt [⟨.Name x px, it, ifs, 0⟩] scope pos) (.lst rs) := ev_comp h1 hi cp cap hsc hn hs turn1
theorem x1_lc {elt it : Expr} {x y : Str} {px py : Pos} {ifs : List Expr} {scope : Scope} {pos spos : Pos} {c : D} {ds rs : List D} {τ : Env} (h1 : Ev W b sc σ it c) (hi : Itr W b c ds) (cap : Cap sc scope σ τ) (hsc : okSc scope x = true) (hn : ds.length ≤ 1000)
    (hs : ∀ (env : PySem.Env) (v : Value), foldedSetIterable it env v = pure v) (hy : sc.names.lookup y = some .local)
    (hsw : ∀ env : PySem.Env, env.scope = sc → swapsWith (.ListComp elt [⟨.Name x px, it, ifs, 0⟩] scope pos) (some (.Name y py)) spos.line env = pure true) (cp : Cp W b (relab scope sc) τ elt x ifs ds rs) :
    X1 W b sc σ (.Assign [.Name y py] (.ListComp elt [⟨.Name x px, it, ifs, 0⟩] scope pos) spos) (.nxt ((y, .lst rs) :: σ)) := x1_comp h1 hi cp cap hsc hn hs hy hsw turn1
theorem x1_lc2 {elt it it2 : Expr} {x y z : Str} {px py pz : Pos} {scope : Scope} {pos spos : Pos} {c : D} {ds rs : List D} (h1 : Ev W b sc σ it c) (hi : Itr W b c ds) (cap : Cap sc scope σ []) (hsc : okSc scope x = true) (hsc2 : okSc scope z = true)
    (hs : ∀ (env : PySem.Env) (v : Value), foldedSetIterable it env v = pure v) (hs2 : ∀ (env : PySem.Env) (v : Value), foldedSetIterable it2 env v = pure v) (hy : sc.names.lookup y = some .local)
    (hsw : ∀ env : PySem.Env, env.scope = sc → swapsWith (.ListComp elt [⟨.Name x px, it, [], 0⟩, ⟨.Name z pz, it2, [], 0⟩] scope pos) (some (.Name y py)) spos.line env = pure true) (cp : Cp2 W b (relab scope sc) elt x it2 z ds rs) (hn : rs.length ≤ 1000) :
    X1 W b sc σ (.Assign [.Name y py] (.ListComp elt [⟨.Name x px, it, [], 0⟩, ⟨.Name z pz, it2, [], 0⟩] scope pos) spos) (.nxt ((y, .lst rs) :: σ)) := x1_comp2 h1 hi cp cap hsc hsc2 hn hs hs2 hy hsw (fun _ _ _ => rfl) (fun _ _ _ => rfl)
end
theorem bi_abs {W : Wd} (F : Fa W) : Bi W (Str.ofString "abs") (.builtin "abs") := F.bin (by decide) (by decide) (by kernel_rfl!)
theorem bi_len {W : Wd} (F : Fa W) : Bi W (Str.ofString "len") (.builtin "len") := F.bin (by decide) (by decide) (by kernel_rfl!)
theorem bi_max {W : Wd} (F : Fa W) : Bi W (Str.ofString "max") (.builtin "max") := F.bin (by decide) (by decide) (by kernel_rfl!)
theorem bi_list {W : Wd} (F : Fa W) : Bi W (Str.ofString "list") (.type "list") := F.bin (by decide) (by decide) (by kernel_rfl!)
theorem bi_tuple {W : Wd} (F : Fa W) : Bi W (Str.ofString "tuple") (.type "tuple") := F.bin (by decide) (by decide) (by kernel_rfl!)
theorem bi_range {W : Wd} (F : Fa W) : Bi W (Str.ofString "range") (.type "range") := F.bin (by decide) (by decide) (by kernel_rfl!)
theorem cap1' {sc scope : Scope} {σ : Env} (y : Str) {d : D} (h : scope.names.all (fun x => x.2 != .free || x.1 == y) = true) (h1 : σ.lookup y = some d) (h2 : scope.names.contains (y, NameKind.free) = true) (h3 : sc.names.lookup y = some .cell) (h4 : (relab scope sc).names.lookup y = some .cell) : Cap sc scope σ [(y, d)] := cap1 h h1 h2 h3 h4
theorem leI {a b : Int} (h : decide (a ≤ b) = true) : a ≤ b := of_decide_eq_true h
theorem leT {a b : Nat} (h : decide (a ≤ b) = true) : a ≤ b := of_decide_eq_true h

theorem X1.weak {W : Wd} {b : Nat} {sc : Scope} {σ τ τ' : Env} {st : Stmt} (h : X1 W b sc σ st (.nxt τ)) (k : ∀ y d, τ'.lookup y = some d → τ.lookup y = some d) : X1 W b sc σ st (.nxt τ') := .mk fun A env X s Q E e q =>
  h.go A env X s Q E e fun f h' tk' c o => q f h' tk' c ⟨o.1, o.2.sub k⟩

/-- f times a, a + 1, .. (n of them) -/
def prodFrom (f : Int) : Nat → Int → Int
  | 0, _ => f
  | n + 1, a => prodFrom (f * a) n (a + 1)
/-- what a loop over range(2, x + 1) multiplies -/
def fct (x : Int) : Int := prodFrom 1 (x + 1 - 2).toNat 2

theorem lp_fact {W : Wd} {b : Nat} {sc : Scope} {xf xs : Str} {body : List Stmt} (hne : (xs == xf) = false)
    (hb : ∀ (σ : Env) (f a : Int), σ.lookup xf = some (.int f) → σ.lookup xs = some (.int a) → IntMulOk f a → Xs W b sc σ body (.nxt ((xf, .int (f * a)) :: σ))) :
    ∀ (n : Nat) (a f : Int) (σ : Env), 0 ≤ a → a + n ≤ 1000 → σ.lookup xf = some (.int f) → ∃ τ, Lp W b sc xs body (ranged n a) σ (.nxt τ) ∧ τ.lookup xf = some (.int (prodFrom f n a)) ∧ ∀ y, (y == xf) = false → (y == xs) = false → τ.lookup y = σ.lookup y
  | 0, a, f, σ, _, _, h => ⟨σ, .nil, h, fun _ _ _ => rfl⟩
  | n + 1, a, f, σ, h0, h1, h => by
    have hne' : (xf == xs) = false := by rw [beq_eq_false_iff_ne] at hne ⊢; exact Ne.symm hne
    have m : IntMulOk f a := .of_right (intBits_le_64 (by omega) (by omega))
    have hx := hb ((xs, .int a) :: σ) f a (by rw [List.lookup_cons, hne']; exact h) (by simp) m
    obtain ⟨τ, t1, t2, t3⟩ := lp_fact hne hb n (a + 1) (f * a) ((xf, .int (f * a)) :: (xs, .int a) :: σ) (by omega) (by push_cast at h1; omega) (by simp)
    refine ⟨τ, .cons hx t1, t2, fun y q1 q2 => ?_⟩
    rw [t3 y q1 q2, List.lookup_cons, q1, List.lookup_cons, q2]

theorem x1_fact {W : Wd} {b : Nat} {sc : Scope} {σ : Env} {xf xs : Str} {px p : Pos} {it : Expr} {body : List Stmt} {x : Int} (hne : (xs == xf) = false) (h1 : Ev W b sc σ it (.rng 2 (x + 1))) (hl : sc.names.lookup xs = some .local) (hF : σ.lookup xf = some (.int 1)) (hS : σ.lookup xs = none) (hx0 : -100 ≤ x) (hx : x ≤ 500)
    (hs : ∀ (env : PySem.Env) (v : Value), foldedSetIterable it env v = pure v) (hb : ∀ (σ : Env) (f a : Int), σ.lookup xf = some (.int f) → σ.lookup xs = some (.int a) → IntMulOk f a → Xs W b sc σ body (.nxt ((xf, .int (f * a)) :: σ))) :
    X1 W b sc σ (.For (.Name xs px) it body [] p) (.nxt ((xf, .int (fct x)) :: σ)) := by
  obtain ⟨τ, t1, t2, t3⟩ := lp_fact hne hb (x + 1 - 2).toNat 2 1 σ (by omega) (by omega) hF
  refine X1.weak (x1_for h1 (itr_rng (by omega) (by omega) (by omega) (by omega)) hl t1 hs) fun y d q => ?_
  rw [List.lookup_cons] at q
  cases h1 : y == xf with
  | true => rw [h1] at q; cases q; rw [beq_iff_eq.mp h1]; exact t2
  | false =>
    rw [h1] at q
    cases h2 : y == xs with
    | true => rw [beq_iff_eq.mp h2, hS] at q; cases q
    | false => rw [t3 y h1 h2]; exact q
section
variable {W : Wd} {b : Nat} {sc : Scope} {σ : Env}

theorem EnvOK.pop {A : Around} {env : PySem.Env} {X : List Addr} {h : Heap} {x : Str} {d : D} (e : EnvOK W b sc A env ((x, d) :: σ) X h) (n : σ.lookup x = none) : EnvOK W b sc A env σ X h := e.sub fun y d' q => by
  rw [List.lookup_cons]
  cases hb : y == x with
  | true => rw [beq_iff_eq.mp hb, n] at q; cases q
  | false => exact q

/-- a loop whose body turns one object of its own -/
theorem for_inv {x : Str} {px p : Pos} {it : Expr} {body : List Stmt} {c : D} {ds : List D} {A : Around} {env : PySem.Env} {X : List Addr} {s : Shared} {Q : Flow → Shared → Prop} {E : Value → Shared → Prop} {F : Addr} {K : List Addr → Nat → Heap → Prop}
    (h1 : Ev W b sc σ it c) (hi : Itr W b c ds) (hl : sc.names.lookup x = some .local) (hs : ∀ env v, foldedSetIterable it env v = pure v)
    (Kk : ∀ Z Z' i h h', K Z i h → Keep (G Z h) (G Z' h') → (∀ o, h.get? F = some o → h'.get? F = some o) → K Z' i h')
    (e : EnvOK W b sc A env σ X s.heap) (FX : F ∈ X) (FL : F ≠ env.locals) (k0 : K X 0 s.heap)
    (hb : ∀ i d, ds[i]? = some d → ∀ (Z : List Addr) (s : Shared) (Q : Flow → Shared → Prop) (E : Value → Shared → Prop), EnvOK W b sc A env ((x, d) :: σ) Z s.heap → F ∈ Z → K Z i s.heap →
      (∀ h' tk', Chg [F, env.locals] s.heap h' → EnvOK W b sc A env σ Z h' → K Z (i + 1) h' → Q .next { s with heap := h', toks := tk' }) → wpAny (model W.prog W.w) A (execs body env) Q E s)
    (hq : ∀ h' tk', Chg [F, env.locals] s.heap h' → EnvOK W b sc A env σ X h' → K X ds.length h' → Q .next { s with heap := h', toks := tk' }) :
    wpAny (model W.prog W.w) A (exec (.For (.Name x px) it body [] p) env) Q E s :=
  wpAny_For (hs := hs env) (h1.go A env X s _ _ e fun u h₁ t₁ k₁ r₁ => hi.go A X _ u _ _ (e.keep k₁).cx r₁ fun I P h₂ t₂ n0 k₂ p₂ io => by
    have base : Keep s.heap h₂ := k₁.trans k₂
    have notI : I ∉ X := (e.keep k₁).fresh n0
    have LI : I ≠ env.locals := fun q => notI (q ▸ e.inX)
    have FI : F ≠ I := fun q => notI (q ▸ FX)
    have e2 : EnvOK W b sc A env σ (I :: X) h₂ := (e.keep k₁).more k₂ n0 (io.has _ _ p₂)
    have kk2 : K (I :: X) 0 h₂ := Kk X _ 0 s.heap _ k0 ((g_keep k₁).trans (g_more k₂.chg n0)) fun o ho => base _ _ ho
    refine codeAny_forLoop (fun k s' => ∃ i h' tk', s' = { s with heap := h', toks := tk' } ∧ k + i = ds.length ∧ P i h' ∧ EnvOK W b sc A env σ (I :: X) h' ∧ K (I :: X) i h' ∧ Chg [env.locals, F, I] h₂ h')
      (fun k s' hI => ?_) ds.length ⟨0, h₂, t₂, rfl, rfl, p₂, e2, kk2, fun _ _ _ e => e⟩
    obtain ⟨i, h', tk', rfl, hk, hp, e', kF, c'⟩ := hI
    have gk : Keep (G X h₁) h' := fun b o eb => c' b o (fun q => by
      simp at q
      rcases q with q | q | q
      · subst q; exact g_not eb e.inX
      · subst q; exact g_not eb FX
      · subst q; rw [gNone n0] at eb; cases eb) (k₂ _ _ (g_sub _ _ eb))
    rcases Nat.lt_or_ge i ds.length with hlt | hge
    · refine io.next i ds[i] (List.getElem?_eq_getElem hlt) _ _ _ hp fun v h₃ t₃ hp₃ c₃ r₃ => ?_
      have gk3 : Keep (G X h₁) (G (I :: X) h₃) := fun b o eb => by
        have nI : b ≠ I := fun q => by subst q; rw [gNone n0] at eb; cases eb
        refine g_get (c₃ b o (by simpa using nI) (gk b o eb)) fun q => ?_
        rcases List.mem_cons.mp q with q | q
        · exact nI q
        · exact g_not eb q
      have e3 : EnvOK W b sc A env σ (I :: X) h₃ := e'.turn c₃ (.head _) LI (io.has _ _ hp₃)
      have cI : Chg (I :: X) h' h₃ := c₃.mono fun y q => by simp at q; simp [q]
      have kF3 : K (I :: X) i h₃ := Kk _ _ _ _ _ kF (g_chg cI) fun o ho => c₃ _ _ (by simpa using FI) ho
      refine wpAny_assign_Name (store_ok e3 (r₃.keep gk3) hl fun h₄ t₄ c₄ e₄ => ?_)
      have cL : Chg (I :: X) h₃ h₄ := c₄.mono fun y q => by simp at q; subst q; exact .tail _ e.inX
      have kF4 : K (I :: X) i h₄ := Kk _ _ _ _ _ kF3 (g_chg cL) fun o ho => c₄ _ _ (by simpa using FL) ho
      refine hb i ds[i] (List.getElem?_eq_getElem hlt) (I :: X) _ _ _ e₄ (.tail _ FX) kF4 fun h₅ t₅ c₅ e₅ kF5 => ?_
      refine ⟨k - 1, by omega, i + 1, h₅, t₅, rfl, by omega, ?_, e₅, kF5, ?_⟩
      · refine io.frame _ _ _ [F, env.locals] ((c₄.mono fun y q => by simp at q; simp [q]).trans c₅) (fun y hy => ?_) hp₃
        simp at hy
        rcases hy with rfl | rfl
        · exact .inl FX
        · exact .inl e.inX
      · exact ((c'.trans (c₃.mono fun b q => by simp at q; simp [q])).trans (c₄.mono fun b q => by simp at q; simp [q])).trans (c₅.mono fun b q => by simp at q; rcases q with q | q <;> simp [q])
    · have hil : i = ds.length := by omega
      subst hil
      refine io.stop _ _ _ hp gk fun h₃ t₃ c₃ hI => wpAny_execs_nil ?_
      have ch : Chg [F, env.locals] s.heap h₃ := fun b o hb eb => by
        have nI : b ≠ I := fun q => by subst q; have := k₁ _ _ eb; rw [n0] at this; cases this
        simp at hb
        exact c₃ b o (by simpa using nI) (c' b o (by simp [hb, nI]) (base b o eb))
      have cI : Chg (I :: X) h' h₃ := c₃.mono fun y q => by simp at q; simp [q]
      refine hq h₃ t₃ ch ((e'.turn c₃ (.head _) LI hI).less e.inX) (Kk _ _ _ _ _ kF ((g_chg cI).trans g_tail) fun o ho => c₃ _ _ (by simpa using FI) ho))
end
def altKind (prog : Program) (w : World) : KeyKind prog w (Str ⊕ Int) where
  is := fun k v => match k with | .inl x => Value.isStrOf x v | .inr i => Value.isInt i v
  hash := fun k => match k with | .inl x => hashStr w x | .inr i => hashInt i
  inj := fun v a b ha hb => by
    cases a <;> cases b <;> simp only at ha hb
    · rw [Value.isStrOf_inj v _ _ ha hb]
    · obtain ⟨t, rfl⟩ := Value.isStrOf_shape ha; simp [Value.isInt] at hb
    · obtain ⟨t, rfl⟩ := Value.isStrOf_shape hb; simp [Value.isInt] at ha
    · rw [Value.isInt_inj v _ _ ha hb]
  byValue := fun k v h => by
    cases k <;> simp only at h
    · obtain ⟨t, rfl⟩ := Value.isStrOf_shape h; rfl
    · obtain ⟨t, rfl⟩ := Value.isInt_shape h; rfl
  pyHash := fun {A E s k v Q} hv h => by
    cases k <;> simp only at hv h
    · obtain ⟨t, rfl⟩ := Value.isStrOf_shape hv; exact wpAny_pyHash_str h
    · obtain ⟨t, rfl⟩ := Value.isInt_shape hv; exact wpAny_pyHash_int h
  eqBool := fun {A E s a b u v Q} hu hv h => by
    cases a with
    | inl x => cases b with
      | inl y =>
        simp only at hu hv
        obtain ⟨t, rfl⟩ := Value.isStrOf_shape hu
        obtain ⟨t', rfl⟩ := Value.isStrOf_shape hv
        exact wpAny_eqBool_str (by simpa using h)
      | inr y =>
        simp only at hu hv
        obtain ⟨t, rfl⟩ := Value.isStrOf_shape hu
        obtain ⟨t', rfl⟩ := Value.isInt_shape hv
        exact SeqAt.EqAt.str_int _ t _ t' prog w E Q (by simpa using h)
    | inr x => cases b with
      | inl y =>
        simp only at hu hv
        obtain ⟨t, rfl⟩ := Value.isInt_shape hu
        obtain ⟨t', rfl⟩ := Value.isStrOf_shape hv
        exact SeqAt.EqAt.int_str _ t _ t' prog w E Q (by simpa using h)
      | inr y =>
        simp only at hu hv
        obtain ⟨t, rfl⟩ := Value.isInt_shape hu
        obtain ⟨t', rfl⟩ := Value.isInt_shape hv
        have e : decide ((Sum.inr x : Str ⊕ Int) = .inr y) = (x == y) := by by_cases q : x = y <;> simp [q]
        rw [e] at h
        exact wpAny_eqBool_int h
  «strs» := fun k x t v h => by
    cases k <;> simp only at h
    · obtain ⟨u, hu⟩ := Value.isStrOf_shape h
      injection hu with hx
      subst hx
      cases v <;> rfl
    · simp [Value.isInt] at h

abbrev oneK : List (Str ⊕ Int) := [.inl (Str.ofString "num"), .inr 1, .inr 1]
abbrev tk (W : Wd) := tupleKind (altKind W.prog W.w)

theorem one_key {W : Wd} {g : Heap} {a : Addr} (r : RV W g (.ref a) (.tup [.str (Str.ofString "num"), .int 1, .int 1])) : (tk W).is g oneK a := by
  obtain ⟨a', vs, e0, ⟨n, e⟩, rs⟩ := r.inv_tup
  cases e0
  obtain ⟨_, _, e1, r1, rs1⟩ := rs.inv_cons
  subst e1
  obtain ⟨_, _, e2, r2, rs2⟩ := rs1.inv_cons
  subst e2
  obtain ⟨_, _, e3, r3, rs3⟩ := rs2.inv_cons
  subst e3
  obtain rfl := rs3.inv_nil
  obtain ⟨_, rfl⟩ := r1.inv
  obtain ⟨_, rfl⟩ := r2.inv
  obtain ⟨_, rfl⟩ := r3.inv
  exact ⟨_, _, _, e, rfl, rfl, .cons (by simp [altKind, Value.isStrOf]) (.cons (by simp [altKind, Value.isInt]) (.cons (by simp [altKind, Value.isInt]) .nil))⟩

theorem dictH_keep {W : Wd} {h h' : Heap} {F a : Addr} {v : Value} (x : h.DictOfH (tk W) F [(oneK, a, v)]) (k : ∀ o, h.get? F = some o → h'.get? F = some o) (r : (tk W).is h' oneK a) : h'.DictOfH (tk W) F [(oneK, a, v)] := by
  obtain ⟨o, es, ep, ho, h1, h2, h3, _, h5⟩ := x
  exact ⟨o, es, ep, k _ ho, h1, h2, h3, by intro x hx; simp at hx; subst hx; exact r, h5⟩
theorem dictH_keep0 {W : Wd} {h h' : Heap} {F : Addr} (x : h.DictOfH (tk W) F []) (k : ∀ o, h.get? F = some o → h'.get? F = some o) : h'.DictOfH (tk W) F [] := by
  obtain ⟨o, es, ep, ho, h1, h2, h3, _, h5⟩ := x
  exact ⟨o, es, ep, k _ ho, h1, h2, h3, by intro x hx; simp at hx, h5⟩

section
variable {W : Wd} {b : Nat} {sc : Scope} {σ : Env}

/-- counts.pop(ONE, z), where counts holds ONE alone -/
theorem pop_one {A : Around} {s : Shared} {d a a' : Addr} {v z : Value} {Q E : Value → Shared → Prop} (hu : A.in1.units < cLine) (hkey : (tk W).is s.heap oneK a') (hm : s.heap.DictOfH (tk W) d [(oneK, a, v)])
    (h : ∀ h' tk', Chg [d] s.heap h' → (∃ ep, h'.DictAt (strKind W.prog W.w) d [] ep) → Q v { s with heap := h', toks := tk' }) :
    wpAny (model W.prog W.w) A (call (.builtin "dict.pop") [.ref d, .ref a', z]) Q E s := by
  refine call_meetsIn (S := fun A R s => A.in1.units < cLine ∧ (tk W).is s.heap oneK a' ∧ s.heap.DictOfH (tk W) d [(oneK, a, v)] ∧ ∀ h' tk', Chg [d] s.heap h' → (∃ ep, h'.DictAt (strKind W.prog W.w) d [] ep) → R (.ok (.ret v)) { s with heap := h', toks := tk' }) F.slot_dict_pop hm.typeIs F.entry_dict_pop (F.args_dict_pop_3 _ _ _) (.of_wp fun A R s ⟨hu, hkey, hm, h⟩ => ?_) ⟨hu, hkey, hm, h⟩
  unfold Builtin.«dict.pop»
  refine wpAny_bind ?_
  unfold Builtin.Dict.keyAndDefault
  refine wpAny_bind (wpAny_notOrdered_dict hm.typeIs ?_)
  show wpAny _ _ (pure (d, Value.ref a', some z)) _ _ s
  refine wpAny_pure ?_
  obtain ⟨o, es, ep, ho, hc, hd, he, his, hn⟩ := id hm
  obtain ⟨e0, rfl⟩ : ∃ e0, es = #[e0] := by
    obtain ⟨l⟩ := es
    simp only [List.map_cons, List.map_nil] at he
    exact ⟨_, by rw [show l = _ from he]⟩
  have hv0 : e0.val = v := by simp only [List.map_cons, List.map_nil, List.cons.injEq] at he; rw [he.1]; rfl
  simp only [keyPart, Option.isSome_none, Bool.false_eq_true, if_false]
  refine wpAny_bind (wpAny_dictEntries ho hd (wpAny_bind (wpAny_pure ?_)))
  show wpAny _ _ (Builtin.Dict.takeOut d (.ref a') >>= _) _ _ s
  refine wpAny_bind ?_
  unfold Builtin.Dict.takeOut
  refine wpAny_holding ?_
  refine wpAny_bind ((tk W).pyHash hu hkey ?_)
  refine wpAny_bind (wpAny_dictFind_heap (s := { s with toks := s.toks + (tk W).draws oneK }) hu hkey ho hd he his hn (fun q => absurd rfl (q 0 (a, v))) fun j p hj => ?_)
  have hj0 : j = 0 := by
    rcases j with _ | j
    · rfl
    · simp at hj
  subst hj0
  refine wpAny_bind (wpAny_dictEntries (s := { s with toks := s.toks + (tk W).draws oneK }) ho hd ?_)
  show wpAny _ _ (updateDictKeys d (·.eraseIdxIfInBounds 0) _ >>= _) _ _ _
  refine wpAny_bind (wpAny_updateDictKeys (hz := by rw [sizeLine_is]; simp) (s := { s with toks := s.toks + (tk W).draws oneK }) ho hd (wpAny_pure ?_))
  show wpAny _ _ (letGo [e0.key] [e0.val] >>= _) _ _ _
  refine wpAny_bind (wpAny_letGo (wpAny_pure ⟨e0.val, rfl, ?_⟩))
  rw [hv0]
  refine h _ _ (fun b o hb eb => (Heap.get?_update_other _ _ (fun q => hb (by simp [q]))).trans eb) ⟨ep + 1, _, _, Heap.get?_update_self _ ho (Obj.isFreed_of_dict (Obj.data_mapDictKeys hd _)), hc.mapDictKeys _, Obj.data_mapDictKeys hd _, ?_, ?_, List.nodup_nil⟩
  · intro e he; simp at he
  · have e : (#[e0].eraseIdxIfInBounds 0).toList = [] := by simp
    rw [e]; exact Pairs.nil (knd := strKind W.prog W.w)

/-- x, y = v -/
theorem x1_un2 {x y : Str} {px py pt p : Pos} {k : Nat} {v : Expr} {d1 d2 : D} (h1 : Ev W b sc σ v (.tup [d1, d2])) (lx : sc.names.lookup x = some .local) (ly : sc.names.lookup y = some .local)
    (hs : ∀ env, swapsWithSole [.Tuple [.Name x px, .Name y py] k pt] v p.line env = pure false) (hw : ∀ env, swappedStores [.Tuple [.Name x px, .Name y py] k pt] v env = pure none) :
    X1 W b sc σ (.Assign [.Tuple [.Name x px, .Name y py] k pt] v p) (.nxt ((y, d2) :: (x, d1) :: σ)) := .mk fun A env X s Q E e h => by
  refine Assign_Tuple (h1.go A env X s _ _ e fun u h₁ t₁ k₁ r₁ => ?_) (hs env) (hw env)
  rw [arm_assign_Tuple]
  refine wpAny_bind (wpAny_standAt ?_)
  show wpAny _ A (do
    let items ← holding [u] (unpackItems u 2 none)
    assignInOrder [assign (.Name x px) env, assign (.Name y py) env] items) _ _ _
  refine wpAny_bind (wpAny_holding (unpack_ok (ds := [d1, d2]) (e.keep k₁).cx r₁ fun vs h₂ t₂ k₂ r₂ => ?_))
  cases r₂ with
  | @cons v1 _ _ _ q1 r₂ => cases r₂ with
    | @cons v2 _ _ _ q2 r₂ =>
      cases r₂
      have e2 := (e.keep k₁).keep k₂
      refine wpAny_bind (wpAny_holding (wpAny_assign_Name (store_ok e2 q1 lx fun h₃ t₃ c₃ e₃ => ?_)))
      have cx : Chg X h₂ h₃ := c₃.mono fun b q => by simp at q; subst q; exact e.inX
      refine wpAny_bind (wpAny_holding (wpAny_assign_Name (store_ok e₃ (q2.keep (g_chg cx)) ly fun h₄ t₄ c₄ e₄ => wpAny_pure ?_)))
      exact h .next h₄ t₄ (((k₁.trans k₂).chg.trans c₃).trans c₄) ⟨rfl, e₄⟩
theorem comp_none {elt it tg : Expr} {ifs : List Expr} {scp : Scope} {cpos : Pos} {A : Around} {cenv : PySem.Env} {X X0 : List Addr} {h0 : Heap} {I Da : Addr} {P : Nat → Heap → Prop} {τ : Env} {s : Shared} {R : Result → Shared → Prop}
    (ht : ∀ I ac env, ∃ f : Value → Sem Fin, compTurn (.ListComp elt [⟨tg, it, ifs, 0⟩] scp cpos) 0 I ac env = (do
      standAt it.pos
      match ← pyNext I with
      | none => pure (.done .next)
      | some v => f v))
    (io : IterOK W A X0 h0 I [] P) (e0 : EnvOK W b sc A cenv τ X s.heap) (p0 : P 0 s.heap) (gk : Keep (G X0 h0) (G X s.heap)) (hI : I ∈ X) (hIC : I ≠ cenv.locals)
    (hR : ∀ h' tk', EnvOK W b sc A cenv τ X h' → Chg [I] s.heap h' → R (.ok .next) { s with heap := h', toks := tk' }) :
    codeAny (model W.prog W.w) A (.compLoop (.ListComp elt [⟨tg, it, ifs, 0⟩] scp cpos) 0 (.ref I) (.ref Da) cenv) R s := by
  refine codeAny_of_tree ?_
  show wpAny _ A ((compTurn (.ListComp elt [⟨tg, it, ifs, 0⟩] scp cpos) 0 (.ref I) (.ref Da) cenv).onRaise (fun x => do noteFrame x cenv; theTreesLotGoes x)) _ _ _
  refine wpAny_noted ?_
  obtain ⟨f, hf⟩ := ht (.ref I) (.ref Da) cenv
  rw [hf]
  refine wpAny_bind (wpAny_standAt (wpAny_bind (io.stop _ _ _ p0 (gk.trans g_sub) fun h₁ t₁ c₁ hI₁ => wpAny_pure ?_)))
  exact hR h₁ t₁ (e0.turn c₁ hI hIC hI₁) c₁

theorem comp_start1 {elt t1 i1 : Expr} {f1 : List Expr} {scope : Scope} {pos : Pos} {it acc : Value} {env : PySem.Env} {A : Around} {R : Result → Shared → Prop} {s : Shared}
    (h0 : codeAny (model W.prog W.w) A (.compLoop (.ListComp elt [⟨t1, i1, f1, 0⟩] scope pos) 0 it acc env) R s)
    (h : ∀ (Q E : Value → Shared → Prop), Q it s → wpAny (model W.prog W.w) A (pyIter it) Q E s) :
    codeAny (model W.prog W.w) A (.compStart (.ListComp elt [⟨t1, i1, f1, 0⟩] scope pos) 0 it acc env) R s := codeAny_compStart_list h0 (h _ _ h0)

/-- a comprehension, stored -/
theorem x1_comp0 {elt it tg : Expr} {x y : Str} {py : Pos} {ifs : List Expr} {scope : Scope} {pos spos : Pos} {τ : Env} (h1 : Ev W b sc σ it .ems) (cap : Cap sc scope σ τ) (hsc : okSc scope x = true)
    (hs : ∀ env v, foldedSetIterable it env v = pure v) (hy : sc.names.lookup y = some .local)
    (hsw : ∀ env : PySem.Env, env.scope = sc → swapsWith (.ListComp elt [⟨tg, it, ifs, 0⟩] scope pos) (some (.Name y py)) spos.line env = pure true)
    (ht : ∀ I ac env, ∃ f : Value → Sem Fin, compTurn (.ListComp elt [⟨tg, it, ifs, 0⟩] scope pos) 0 I ac env = (do
      standAt it.pos
      match ← pyNext I with
      | none => pure (.done .next)
      | some v => f v)) :
    X1 W b sc σ (.Assign [.Name y py] (.ListComp elt [⟨tg, it, ifs, 0⟩] scope pos) spos) (.nxt ((y, .lst []) :: σ)) := .mk fun A env X s Q E e h => by
  rw [exec_Assign_Name_used _ _ _ _ (hsw env e.scope)]
  refine wpAny_bind (wpAny_standAt (wpAny_bind ?_))
  show wpAny _ A (do let _ ← comprehension (.ListComp elt [⟨tg, it, ifs, 0⟩] scope pos) scope env _ (newList []) false (eval it env) (some (assign (.Name y py) env))) _ _ s
  refine wpAny_bind (wpAny_mono (wpAny_comprehension_free (use := some (assign (.Name y py) env)) (Q := fun _ s' => Q .next s') rfl (hs env) (cap_clo cap e) (okSc_kind hsc) (okSc_names hsc)
    (h1.go A env X s _ _ e fun u h₁ t₁ k₁ r₁ => itr_ems.go A X _ u _ _ (e.keep k₁).cx r₁ fun I P h₂ t₂ n0 k₂ p₂ io => ?_)) (fun _ s' hq => wpAny_pure (wpAny_pure hq)) fun _ _ e => e)
  refine comp_lay (s0 := { s with heap := h₁, toks := t₁ }) (s2 := { s with heap := h₂, toks := t₂ }) (RR := fun acc C => compPost (model W.prog W.w) A E (some (assign (.Name y py) env)) (fun _ s' => Q .next s') acc C) hsc cap (e.keep k₁) n0 k₂ p₂ io fun h₃ Da cenv t₃ nD nC hDC hDI hIC _ k₃ e₃ p₃ gk pl => ?_
  refine comp_start1 (comp_none ht io e₃ p₃ gk (by simp) hIC fun h₄ t₄ e₄ c₄ => ?_) (fun Q E q => io.self 0 _ Q E p₃ q)
  · have r₄ : RVs W (G (I :: cenv.locals :: Da :: X) h₄) (#[] : Array Value).toList [] := .nil
    have pl₄ : h₄.PlainList Da #[] := pl.at fun o eo => c₄ _ _ (by simpa using hDI) eo
    have c₄ : Chg [cenv.locals, Da, I] h₃ h₄ := c₄.mono fun y q => by simp at q; simp [q]
    obtain ⟨m, hm, _⟩ := e₄.loc
    obtain ⟨n, plq⟩ := pl₄
    have up : ∀ b o, b ∉ [cenv.locals, Da, I] → h₃.get? b = some o → h₄.get? b = some o := c₄
    have kk : Keep s.heap h₄ := fun b o eb => by
      have q := k₁ _ _ eb
      refine up b o ?_ (k₃ _ _ (k₂ _ _ q))
      simp only [List.mem_cons, List.not_mem_nil, or_false]
      rintro (z | z | z) <;> subst z
      · rw [nC] at q; cases q
      · rw [nD] at q; cases q
      · rw [n0] at q; cases q
    have lC : cenv.locals ≠ env.locals := fun q => by
      obtain ⟨m, ⟨o, _, _, ho, _⟩, _⟩ := (e.keep k₁).loc
      rw [← q] at ho; rw [nC] at ho; cases ho
    obtain ⟨oC, _, _, hoC, _⟩ := id hm
    have e4 : EnvOK W b sc A env σ (cenv.locals :: X) h₄ := (e.keep k₁).more (fun b o eb => by
      refine up b o ?_ (k₃ _ _ (k₂ _ _ eb))
      simp only [List.mem_cons, List.not_mem_nil, or_false]
      rintro (z | z | z) <;> subst z
      · rw [nC] at eb; cases eb
      · rw [nD] at eb; cases eb
      · rw [n0] at eb; cases eb) nC ⟨oC, hoC⟩
    have rD : RV W (G (cenv.locals :: X) h₄) (.ref Da) (.lst []) := .lst (vs := (#[] : Array Value).toList) ⟨n, g_get plq (by
      simp only [List.mem_cons]
      rintro (q | q)
      · exact hDC q
      · exact (e.keep k₁).fresh nD q)⟩ (rvs_out r₄ (fun b o hb eb => eb) fun b hb => by
        simp only [List.mem_cons] at hb ⊢
        rcases hb with hb | hb
        · exact .inr (.inl hb)
        · exact .inr (.inr (.inr hb)))
    show wpAny _ A (assign (.Name y py) env (.ref Da)) _ _ _
    refine wpAny_assign_Name (store_ok e4 rD hy fun h₅ t₅ c₅ e₅ => ?_)
    have hm5 : h₅.Ns cenv.locals m := by
      obtain ⟨o, es, ep, ho, r⟩ := hm
      exact ⟨o, es, ep, c₅ _ _ (by simpa using lC) ho, r⟩
    refine ⟨m, hm5, fun h₆ hs₆ => ?_⟩
    have q6 : Chg [cenv.locals] h₅ h₆ := fun b o hb eb => hs₆.extBut b o (by simpa using hb) eb
    refine h .next h₆ _ (fun b o hb eb => ?_) ⟨rfl, e₅.drop q6 lC ((e.keep k₁).fresh nC) e.inX⟩
    have q := kk _ _ eb
    refine q6 b o (fun z => ?_) (c₅ b o hb q)
    simp at z; subst z
    have q' := k₁ _ _ eb
    rw [nC] at q'; cases q'

theorem EnvOK.swap {A : Around} {env : PySem.Env} {X : List Addr} {h : Heap} {σ' : Env} (e : EnvOK W b sc A env σ X h) (k : ∀ y d, σ'.lookup y = some d → σ.lookup y = some d ∨ ∃ F, σ.lookup y = some (.adr F) ∧ RV W (G X h) (.ref F) d) : EnvOK W b sc A env σ' X h := by
  obtain ⟨m, n, l⟩ := e.loc
  refine ⟨e.scope, e.kind, e.glob, e.bui, e.room, e.inX, e.has, e.top, e.hok, m, n, fun y d q => ?_⟩
  rcases k y d q with q | ⟨F, q, r⟩
  · exact l y d q
  · obtain ⟨v, r', z⟩ := l y _ q
    cases r'
    exact ⟨_, r, z⟩

theorem call_raw {x : Str} {p pos : Pos} {a : Expr} {as : List Expr} {ds : List D} {d : D} {b' : Nat} {A : Around} {env : PySem.Env} {X : List Addr} {s : Shared} {Q E : Value → Shared → Prop} (c : CallOK W b' x ds d) (hk : sc.names.lookup x = some .globalImplicit) (hd : (x == ("__debug__" : Str)) = false) (hb : b' ≤ b)
    (hs : ∀ env, starEach (a :: as) env = (false, eval a env) :: starEach as env) (e : EnvOK W b sc A env σ X s.heap)
    (h : wpAny (model W.prog W.w) A (spliced (backTo pos (starEach (a :: as) env))) (fun vs s₁ => Keep s.heap s₁.heap ∧ RVs W (G X s₁.heap) vs ds ∧ ∀ v h' tk', Keep s₁.heap h' → RV W (G X h') v d → Q v { s₁ with heap := h', toks := tk' }) E s) :
    wpAny (model W.prog W.w) A (eval (.Call (.Name x p) (a :: as) [] pos) env) Q E s := by
  obtain ⟨k, k1, k2, k3⟩ := c.isfn
  obtain ⟨f, cc, o, pm, doc, f1, f2, f3, f4⟩ := e.top.fn k k1 k2
  rw [k3] at f1
  refine Call_ (Name_function_global (by rw [e.scope]; exact e.kind) (by show env.scope.names.lookup x = _; rw [e.scope]; exact hk) (loadGlobal_global (mg := W.mg) ?_ f1 ?_) hd)
  · rw [e.glob]; exact e.top.gl.keeps g_sub
  · refine callWith_def f3 (he := hs env) (wpAny_mono h (fun vs s₁ ⟨q1, q2, q3⟩ => ⟨q1 _ _ (g_sub _ _ f2), ?_⟩) fun _ _ q => q)
    exact c.go A X _ f vs _ _ f1 ((e.keep q1).cx.less hb) q2 q3

theorem rv_ref {g : Heap} {v : Value} {l : List D} (r : RV W g v (.tup l)) : ∃ a, v = .ref a := by cases r; exact ⟨_, rfl⟩

theorem x1_lc0 {elt it tg : Expr} {x y : Str} {py : Pos} {ifs : List Expr} {scope : Scope} {pos spos : Pos} {τ : Env} (h1 : Ev W b sc σ it .ems) (cap : Cap sc scope σ τ) (hsc : okSc scope x = true)
    (hs : ∀ (env : PySem.Env) (v : Value), foldedSetIterable it env v = pure v) (hy : sc.names.lookup y = some .local)
    (hsw : ∀ env : PySem.Env, env.scope = sc → swapsWith (.ListComp elt [⟨tg, it, ifs, 0⟩] scope pos) (some (.Name y py)) spos.line env = pure true) :
    X1 W b sc σ (.Assign [.Name y py] (.ListComp elt [⟨tg, it, ifs, 0⟩] scope pos) spos) (.nxt ((y, .lst []) :: σ)) := x1_comp0 h1 cap hsc hs hy hsw (fun _ _ _ => ⟨_, rfl⟩)
end
def NoF (o : Obj) : Prop := ∀ vs, o.data ≠ .fields vs
/-- but for its slots, what is no record stays -/
def Ups (Y : List Addr) (h h' : Heap) : Prop := ∀ b o, b ∉ Y → h.get? b = some o → NoF o → ∃ sl, h'.get? b = some { o with slots := sl }
theorem Ups.of_keep {Y : List Addr} {h h' : Heap} (k : Keep h h') : Ups Y h h' := fun b o _ e _ => ⟨o.slots, k _ _ e⟩
theorem Ups.of_chg {Y : List Addr} {h h' : Heap} (k : Chg Y h h') : Ups Y h h' := fun b o n e _ => ⟨o.slots, k _ _ n e⟩
theorem Ups.trans {Y : List Addr} {a b c : Heap} (x : Ups Y a b) (y : Ups Y b c) : Ups Y a c := fun p o n e q => by
  obtain ⟨sl, e1⟩ := x p o n e q
  exact y p { o with slots := sl } n e1 q
theorem Ups.mono {Y Z : List Addr} {a b : Heap} (x : Ups Y a b) (k : ∀ p ∈ Y, p ∈ Z) : Ups Z a b := fun p o n e q => x p o (fun z => n (k p z)) e q

/-- the thing that flies: a CasFail of the kind domain, with its own record of names -/
structure Thing (W : Wd) (h h' : Heap) (x : Addr) (fl : Value) : Prop where
  new : h.get? x = none
  obj : ∃ C dd T cx vs sl oT ts m t, W.mg (Str.ofString "CasFail") = some (.ref C) ∧ h'.get? x = some { cls := .ref C, dict := some dd, data := .fields vs, slots := sl } ∧ vs[1]? = some (.ref T) ∧ vs[2]? = some cx ∧ (W.hn = true → cx = .none) ∧
    h.get? dd = none ∧ dd ≠ x ∧ h'.Ns1 dd m ∧ m (Str.ofString "kind") = some (.str (Str.ofString "domain") t) ∧
    h.get? T = none ∧ T ≠ x ∧ h'.get? T = some oT ∧ oT.data = .fields ts ∧ ts[3]? = some fl

structure Fly (W : Wd) (l : List PySem.Env) (X Y : List Addr) (h h' : Heap) (x : Addr) (fl : Value) : Prop where
  keep : Keep (G X h) h'
  ext : ∀ b, (∃ o, h.get? b = some o) → ∃ o, h'.get? b = some o
  ups : Ups Y h h'
  th : Thing W h h' x fl
  frames : h'.FunFrames (G X h) l

theorem ns1_ups {Y : List Addr} {h h' : Heap} {a : Addr} {m : Str → Option Value} (x : Ups Y h h') (n : a ∉ Y) (hn : h.Ns1 a m) : h'.Ns1 a m := by
  obtain ⟨o, es, ep, ho, hd, r⟩ := hn
  obtain ⟨sl, hs⟩ := x a o n ho fun vs q => by rw [hd] at q; cases q
  exact ⟨_, es, ep, hs, hd, r⟩
theorem ns_ups {Y : List Addr} {h h' : Heap} {a : Addr} {m : Str → Option Value} (x : Ups Y h h') (n : a ∉ Y) (hn : h.Ns a m) : h'.Ns a m := by
  obtain ⟨o, es, ep, ho, hd, r⟩ := hn
  obtain ⟨sl, hs⟩ := x a o n ho fun vs q => by rw [hd] at q; cases q
  exact ⟨_, es, ep, hs, hd, r⟩

theorem funf_ups {h h' base : Heap} {l : List PySem.Env} (f : h.FunFrames base l) (k : ∀ b o, b ∈ l.filterMap (·.frame) → h.get? b = some o → NoF o → ∃ sl, h'.get? b = some { o with slots := sl }) : h'.FunFrames base l := by
  induction l with
  | nil => trivial
  | cons env rest ih =>
    obtain ⟨hk, ⟨L, o, hf, hn, ho, hd⟩, hr⟩ := f
    obtain ⟨sl, e⟩ := k L o (by rw [List.filterMap_cons, hf]; simp) ho hd
    refine ⟨hk, ⟨L, _, hf, hn, e, hd⟩, ih hr fun b o hb => k b o ?_⟩
    rw [List.filterMap_cons, hf]; exact .tail _ hb

section
variable {W : Wd} {M : Model} {A : Around} {s : Shared} {X Y : List Addr} {h : Heap} {x : Addr} {l outer : List PySem.Env} {env : PySem.Env} {L : Addr}

theorem rawInt_ne (L : Addr) : ¬ ((Value.none == rawInt L) = true) := by simp [rawInt]

/-- the frame is noted -/
theorem note_step {Q : Unit → Shared → Prop} {E : Value → Shared → Prop} {fl : Value} (F : Fly W (env :: outer) X Y h s.heap x fl) (hne : ¬ ((fl == rawInt L) = true)) (hfr : A.frames = some (env :: outer)) (hf : env.frame = some L)
    (q : ∀ h', Fly W (env :: outer) X Y h h' x (rawInt L) → Ups [] s.heap h' → Q () { s with heap := h' }) : wpAny M A (noteFrame (.ref x) env) Q E s := by
  obtain ⟨hkeep, hext, hups, ⟨hnew, C, dd, T, cx, vs, sl, oT, ts, m, t, c1, hx, h1, h2, hcx, ddn, ddx, hm, hmk, hTn, hTx, hT, hdT, h3⟩, hfun⟩ := F
  unfold noteFrame
  simp only [hf]
  refine wpAny_bind (wpAny_field hx rfl h1 ?_)
  rw [if_pos (show (Value.ref T != Value.none) = true from by simp)]
  refine wpAny_bind (wpAny_field hT hdT h3 ?_)
  rw [if_neg hne]
  have hz3 : 3 < ts.size := (Array.getElem?_eq_some_iff.mp h3).1
  have hz1 : 1 < vs.size := (Array.getElem?_eq_some_iff.mp h1).1
  refine wpAny_bind (wpAny_setField hT hdT hz3 ?_)
  generalize hA : s.heap.update T (Obj.mapFields (·.setIfInBounds 3 Value.none)) = gA
  have oA : ∀ b, b ≠ T → gA.get? b = s.heap.get? b := fun b hb => by rw [← hA]; exact Heap.get?_update_other _ _ (Ne.symm hb)
  have nfT : ∀ b o, s.heap.get? b = some o → NoF o → b ≠ T := fun b o e n z => by subst z; rw [hT] at e; cases e; exact n _ hdT
  have nfx : ∀ b o, s.heap.get? b = some o → NoF o → b ≠ x := fun b o e n z => by subst z; rw [hx] at e; cases e; exact n _ rfl
  have fA : gA.FunFrames (G X h) (env :: outer) := funf_ups hfun fun b o _ e n => ⟨o.slots, (oA b (nfT b o e n)).trans e⟩
  refine wpAny_bind (wpAny_frameOf_fun hfr fA hf fun gB hB => ?_)
  refine wpAny_bind (wpAny_entryPlaceOf fun pl hpl => ?_)
  unfold EntryCells.newEntry newFields
  refine wpAny_bind (wpAny_newObj_type ?_ (hpl.sizeOk5 _ _ _ _ _))
  have xS : x ∉ (env :: outer).filterMap (·.frame) := fun hmem => by
    obtain ⟨_, o, ho, hn⟩ := hfun.mem hmem
    exact nfx _ _ ho hn rfl
  have TS : T ∉ (env :: outer).filterMap (·.frame) := fun hmem => by
    obtain ⟨_, o, ho, hn⟩ := hfun.mem hmem
    exact nfT _ _ ho hn rfl
  have xB : gB.get? x = some { cls := .ref C, dict := some dd, data := .fields vs, slots := sl } := (hB.2.1 x xS).trans ((oA x (Ne.symm hTx)).trans hx)
  generalize hTb : ([Value.ref T, .ref L, .none, rawInt L, .none] ++ (if pl.isEmpty then List.replicate 6 Value.none else pl)) = tb
  have htb3 : tb.toArray[3]? = some (rawInt L) := by rw [← hTb]; rfl
  have hx2 : (gB.push { cls := .type "traceback", dict := none, data := .fields tb.toArray }).get? x = some { cls := .ref C, dict := some dd, data := .fields vs, slots := sl } := Heap.get?_push_of_some _ xB
  have hTe : gB.objs.size ≠ x := Nat.ne_of_gt (Heap.lt_size xB)
  refine wpAny_setField hx2 rfl hz1 (q _ ?_ ?_)
  · have hx3 := Heap.get?_update_self (Obj.mapFields (·.setIfInBounds 1 (Value.ref gB.objs.size))) hx2 rfl
    have hT3 : ((gB.push { cls := .type "traceback", dict := none, data := .fields tb.toArray }).update x (Obj.mapFields (·.setIfInBounds 1 (Value.ref gB.objs.size)))).get? gB.objs.size = some { cls := .type "traceback", dict := none, data := .fields tb.toArray } :=
      (Heap.get?_update_other _ _ (Ne.symm hTe)).trans (Heap.get?_push_size gB rfl)
    have up : ∀ b o, b ≠ x → gB.get? b = some o → ((gB.push { cls := .type "traceback", dict := none, data := .fields tb.toArray }).update x (Obj.mapFields (·.setIfInBounds 1 (Value.ref gB.objs.size)))).get? b = some o := fun b o hb e =>
      (Heap.get?_update_other _ _ (Ne.symm hb)).trans (Heap.get?_push_of_some _ e)
    have ups1 : Ups [] s.heap ((gB.push { cls := .type "traceback", dict := none, data := .fields tb.toArray }).update x (Obj.mapFields (·.setIfInBounds 1 (Value.ref gB.objs.size)))) := fun b o _ e n => by
      have e1 := (oA b (nfT b o e n)).trans e
      obtain ⟨sl', e2⟩ := hB.2.2 b o e1
      exact ⟨sl', up b _ (nfx b o e n) e2⟩
    have inB : ∀ b o, s.heap.get? b = some o → ∃ o', gB.get? b = some o' := fun b o e => by
      by_cases z : b = T
      · subst z
        have : gA.get? b = some (Obj.mapFields (·.setIfInBounds 3 Value.none) oT) := by rw [← hA]; exact Heap.get?_update_self _ hT (Obj.isFreed_of_fields (Obj.data_mapFields hdT _))
        obtain ⟨sl', e2⟩ := hB.2.2 b _ this
        exact ⟨_, e2⟩
      · obtain ⟨sl', e2⟩ := hB.2.2 b o ((oA b z).trans e)
        exact ⟨_, e2⟩
    refine ⟨fun b o e => ?_, fun b hb => ?_, hups.trans (ups1.mono (by simp)), ⟨hnew, C, dd, gB.objs.size, cx, _, sl, _, _, m, t, c1, hx3, ?_, ?_, hcx, ddn, ddx, ns1_ups ups1 (by simp) hm, hmk, ?_, hTe, hT3, rfl, htb3⟩, funf_ups hfun fun b o _ e n => ups1 b o (by simp) e n⟩
    · have e0 := hkeep b o e
      have bx : b ≠ x := fun z => by subst z; have := g_sub _ _ e; rw [hnew] at this; cases this
      have bT : b ≠ T := fun z => by subst z; have := g_sub _ _ e; rw [hTn] at this; cases this
      have bS : b ∉ (env :: outer).filterMap (·.frame) := fun hmem => by
        have := (hfun.mem hmem).1
        rw [e] at this; cases this
      exact up b o bx ((hB.2.1 b bS).trans ((oA b bT).trans e0))
    · obtain ⟨o1, h1⟩ := hext b hb
      by_cases z : b = x
      · subst z; exact ⟨_, hx3⟩
      · obtain ⟨o2, h2⟩ := inB _ _ h1
        exact ⟨_, up b o2 z h2⟩
    · simp [hz1]
    · rw [Array.getElem?_setIfInBounds_ne (by decide)]; exact h2
    · cases z : h.get? gB.objs.size with
      | none => rfl
      | some o =>
        exfalso
        obtain ⟨o1, h1⟩ := hext _ ⟨_, z⟩
        obtain ⟨o', e'⟩ := inB _ _ h1
        exact absurd (Heap.lt_size e') (Nat.lt_irrefl _)
  · intro b o _ e n
    have e1 := (oA b (nfT b o e n)).trans e
    obtain ⟨sl', e2⟩ := hB.2.2 b o e1
    exact ⟨sl', (Heap.get?_update_other _ _ (Ne.symm (nfx b o e n))).trans (Heap.get?_push_of_some _ e2)⟩

/-- its flight is set -/
theorem flight_step {Q : Unit → Shared → Prop} {E : Value → Shared → Prop} {fl : Value} {fr : Option Addr} (F : Fly W l X Y h s.heap x fl)
    (q : ∀ h', Fly W l X Y h h' x (fr.elim .none fun f => rawInt f) → Ups [] s.heap h' → Q () { s with heap := h' }) : wpAny M A (setFlight (.ref x) fr) Q E s := by
  obtain ⟨hkeep, hext, hups, ⟨hnew, C, dd, T, cx, vs, sl, oT, ts, m, t, c1, hx, h1, h2, hcx, ddn, ddx, hm, hmk, hTn, hTx, hT, hdT, h3⟩, hfun⟩ := F
  unfold setFlight
  refine wpAny_bind (wpAny_field hx rfl h1 ?_)
  rw [if_pos (show (Value.ref T != Value.none) = true from by simp)]
  have hz3 : 3 < ts.size := (Array.getElem?_eq_some_iff.mp h3).1
  refine wpAny_setField hT hdT hz3 (q _ ?_ ?_)
  all_goals
    have other : ∀ b, b ≠ T → (s.heap.update T (Obj.mapFields (·.setIfInBounds 3 (fr.elim Value.none fun f => rawInt f)))).get? b = s.heap.get? b := fun b hb => Heap.get?_update_other _ _ (Ne.symm hb)
    have nfT : ∀ b o, s.heap.get? b = some o → NoF o → b ≠ T := fun b o e n z => by subst z; rw [hT] at e; cases e; exact n _ hdT
    have ups1 : Ups [] s.heap (s.heap.update T (Obj.mapFields (·.setIfInBounds 3 (fr.elim Value.none fun f => rawInt f)))) := fun b o _ e n => ⟨o.slots, (other b (nfT b o e n)).trans e⟩
  · have hT' := Heap.get?_update_self (Obj.mapFields (·.setIfInBounds 3 (fr.elim Value.none fun f => rawInt f))) hT (Obj.isFreed_of_fields (Obj.data_mapFields hdT _))
    refine ⟨fun b o e => (other b fun z => by subst z; have := g_sub _ _ e; rw [hTn] at this; cases this).trans (hkeep b o e), fun b hb => ?_, hups.trans (ups1.mono (by simp)),
      ⟨hnew, C, dd, T, cx, vs, sl, _, _, m, t, c1, (other x (Ne.symm hTx)).trans hx, h1, h2, hcx, ddn, ddx, ns1_ups ups1 (by simp) hm, hmk, hTn, hTx, hT', Obj.data_mapFields hdT _, by simp [hz3]⟩, funf_ups hfun fun b o _ e n => ups1 b o (by simp) e n⟩
    obtain ⟨o1, e1⟩ := hext b hb
    by_cases z : b = T
    · subst z; exact ⟨_, hT'⟩
    · exact ⟨o1, (other b z).trans e1⟩
  · exact ups1

/-- the frame's own flight is known -/
theorem note_again {Q : Unit → Shared → Prop} {E : Value → Shared → Prop} {fl : Value} (F : Fly W l X Y h s.heap x fl) (heq : (fl == rawInt L) = true) (hf : env.frame = some L) (q : Q () s) : wpAny M A (noteFrame (.ref x) env) Q E s := by
  obtain ⟨hkeep, hext, hups, ⟨hnew, C, dd, T, cx, vs, sl, oT, ts, m, t, c1, hx, h1, h2, hcx, ddn, ddx, hm, hmk, hTn, hTx, hT, hdT, h3⟩, hfun⟩ := F
  unfold noteFrame
  simp only [hf]
  refine wpAny_bind (wpAny_field hx rfl h1 ?_)
  rw [if_pos (show (Value.ref T != Value.none) = true from by simp)]
  refine wpAny_bind (wpAny_field hT hdT h3 ?_)
  rw [if_pos heq]
  exact wpAny_pure q

theorem leave_step {Q : Unit → Shared → Prop} {E : Value → Shared → Prop} {fl : Value} (F : Fly W (env :: outer) X Y h s.heap x fl) (hfr : A.frames = some (env :: outer)) (hf : env.frame = some L)
    (q : ∀ h', Fly W (env :: outer) X Y h h' x .none → Q () { s with heap := h' }) : wpAny M A (leaving env (.ref x)) Q E s := by
  unfold leaving
  by_cases z : (fl == rawInt L) = true
  · exact wpAny_bind (note_again F z hf (flight_step (fr := none) F fun h2 F2 _ => q h2 F2))
  · exact wpAny_bind (note_step F z hfr hf fun h1 F1 _ => flight_step (s := { s with heap := h1 }) (fr := none) F1 fun h2 F2 _ => q h2 F2)
theorem noted_step {Q : Unit → Shared → Prop} {E : Value → Shared → Prop} {fl : Value} (F : Fly W (env :: outer) X Y h s.heap x fl) (hfr : A.frames = some (env :: outer)) (hf : env.frame = some L)
    (q : ∀ h' fl', Fly W (env :: outer) X Y h h' x fl' → Ups [] s.heap h' → Q () { s with heap := h' }) : wpAny M A (noteFrame (.ref x) env) Q E s := by
  by_cases z : (fl == rawInt L) = true
  · exact note_again F z hf (q s.heap fl F (Ups.of_keep Keep.rfl'))
  · exact note_step F z hfr hf fun h' F' => q h' _ F'
theorem passOn_step {α : Type} {what : String} {Q : α → Shared → Prop} {E : Value → Shared → Prop} {fl : Value} (F : Fly W l X Y h s.heap x fl)
    (q : ∀ h' fl', Fly W l X Y h h' x fl' → E (.ref x) { s with heap := h' }) : wpAny M A (PySem.passOn what (.ref x) env : Sem α) Q E s := by
  have F0 := F
  obtain ⟨hkeep, hext, hups, ⟨hnew, C, dd, T, cx, vs, sl, oT, ts, m, t, c1, hx, h1, h2, hcx, ddn, ddx, hm, hmk, hTn, hTx, hT, hdT, h3⟩, hfun⟩ := F
  unfold PySem.passOn
  refine wpAny_bind (wpAny_field hx rfl h1 ?_)
  rw [if_neg (show ¬ ((Value.ref T == Value.none) = true) from by simp)]
  exact wpAny_bind (flight_step F0 fun h' F' _ => wpAny_throw (q h' _ F'))
theorem noteFrame_same {e : Value} {a b : PySem.Env} (h : a.frame = b.frame) : noteFrame e a = noteFrame e b := by
  unfold noteFrame PySem.frameOf
  rw [h]
end
section
open Builtin Builtin.ObjectAttr
section
variable {W : Wd} {b : Nat} {sc : Scope} {σ : Env}

theorem op_addS {x y : Str} (n : x.length + y.length ≤ 1000) : Op2 W b (binaryOp .Add) (.str x) (.str y) (.str (x ++ y)) := .mk fun A X s u v Q E c r1 r2 h => by
  cases r1; cases r2; exact add_str (fun t' tk => h _ s.heap tk Keep.rfl' (.str _ _)) (by rw [sizeLine_is]; omega)

theorem init_type : findCls [] (.type "Exception") (.type "type") (Str.ofString "__init__") = some (.val (.builtin "Exception.__init__")) := by kernel_rfl!

theorem base_init {A : Around} {s : Shared} {C N : Addr} {nm q : Str} {bs : List Value} {sn : List Str} {sub : List Value} {col : Option Bool} {dd : Option Addr} {k0 k1 k2 k3 k5 : Option Value} {e : Addr} {ob : Obj} {vs : Array Value} {t0 : Addr} {v : Value} {Q E : Value → Shared → Prop}
    (hC : s.heap.get? C = some (excClassObj nm q C N bs [.type "Exception", .type "BaseException", .type "object"] true sn sub false col dd k0 k1 k2 k3 k5 "Exception.__new__"))
    (he : s.heap.get? e = some ob) (hcls : ob.cls = .ref C) (hd : ob.data = .fields vs) (h0 : vs[0]? = some (.ref t0))
    (h : Q .none { s with heap := (s.heap.push { cls := .type "tuple", data := .seq #[v] }).update e (Obj.mapFields (·.setIfInBounds 0 (.ref s.heap.objs.size))) }) :
    wpAny (model W.prog W.w) A (call (.builtin "Exception.__init__") [.ref e, v]) Q E s := by
  obtain ⟨hh, g, d, t, os⟩ := s
  refine wpAny_call (codeAny_call_builtin F.excBase_Exception.init.plain F.excBase_Exception.initEntry (wpAny_check_init_sub F.excBase_Exception hC he hcls ?_))
  unfold Builtin.«BaseException.__init__»
  dsimp only
  rw [if_neg (by simp)]
  unfold newTuple Builtin.BaseException.bexcPut
  have hsz : 0 < vs.size := (Array.getElem?_eq_some_iff.mp h0).1
  have he₁ := Heap.get?_push_of_some (h := hh) { cls := .type "tuple", data := .seq [v].toArray } he
  refine wpAny_bind (wpAny_newObj_type (wpAny_bind (wpAny_bind (wpAny_field he₁ hd h0 (wpAny_bind (wpAny_setField he₁ hd hsz ?_))))) (by show 1 ≤ sizeLine; rw [sizeLine_is]; omega))
  exact wpAny_letGo (wpAny_pure h)

section
variable {h : Heap} {g : Array GenState} {d : Drawn} {t : Nat} {os : OsState} {A : Around} {C N x : Addr} {nm q : Str} {bs : List Value} {sn : List Str} {sub : List Value} {col : Option Bool} {dd : Option Addr} {k0 k1 k2 k3 k5 : Option Value} {mN : Str → Option Value} {fs : Array Value} {name : Str} {v : Value} {E : Value → Shared → Prop} {B newId sa owner : String} {bm : List Value}
theorem store_new_entry (SF : StoreFacts B bm sa owner) {tk : Tok} {o : Obj} {Q : Fin → Shared → Prop}
    (hC : h.get? C = some (excClassObj nm q C N bs bm true sn sub false col dd k0 k1 k2 k3 k5 newId))
    (hn : h.Ns N mN) (hna : mN name = none) (hB : typeLookup (.type B) name = pure none)
    (hx : h.get? x = some o) (hc : o.cls = .ref C) (hdn : o.dict = none) (hdat : o.data = .fields fs)
    (hq : ∀ h' tk' m, h'.get? x = some { o with dict := some h.objs.size } → h'.Ns1 h.objs.size m → (∀ y, m y = if y = name then some v else none) → (∀ b o, b ≠ x → h.get? b = some o → h'.get? b = some o) → Q (.done (.ret .none)) ⟨h', g, d, tk', os⟩) :
    wpAny (model W.prog W.w) A (Builtin.«object.__setattr__» ⟨[.ref x, .str name tk, v], []⟩) Q E ⟨h, g, d, t, os⟩ := by
  have hpass := SF.passes (.ref x)
  unfold Builtin.«object.__setattr__»
  repeat (first | rw [refuse_eq] | (rw [refuseLoop_ref, hpass]) | (with_reducible refine wpAny_loadPart_at hx ?_; rw [hc]) | with_reducible refine wpAny_mroOf_exc hC ?_ | (with_reducible refine wpAny_typeLookup_exc hC hn SF.mro hB ?_; rw [hna]) | wp_step)
  rw [hdn, if_neg (by simp [typeHasDict])]
  split
  · rename_i hcd
    cases hcd
  split
  · rename_i c hcd
    rw [hdat] at hcd; cases hcd
  · have hx₁ : (h.push { cls := .type "dict", data := .dict #[] }).get? x = some o := Heap.get?_push_of_some _ hx
    have hxs : x ≠ h.objs.size := Nat.ne_of_lt (Heap.lt_size hx)
    refine wpAny_bind (wpAny_alloc' ?_)
    refine wpAny_bind (wpAny_update' hx₁ ?_)
    refine wpAny_pure ?_
    have hgd : ((h.push { cls := .type "dict", data := .dict #[] }).update x fun o => { cls := o.cls, dict := some h.objs.size, data := o.data, slots := o.slots }).get? h.objs.size
        = some { cls := .type "dict", data := .dict #[] } :=
      (Heap.get?_update_ne _ _ _ _ hxs.symm).trans (Heap.get?_push_at rfl rfl)
    have hnd : ((h.push { cls := .type "dict", data := .dict #[] }).update x fun o => { cls := o.cls, dict := some h.objs.size, data := o.data, slots := o.slots }).Ns h.objs.size (fun _ => none) :=
      ⟨_, #[], _, hgd, rfl, fun e he => absurd he (by simp), fun _ => rfl⟩
    show wpAny _ _ (storeInDict h.objs.size (.str name tk) name v) _ _ _
    unfold storeInDict newKeyGuard
    refine wpAny_bind (wpAny_pure (wpAny_bind (wpAny_nsSet1 (Heap.Ns1.of_empty hnd) fun h' hn' hs => ?_)))
    obtain ⟨oD, esD, epD, hoD, hdD, hcD⟩ := hn'.count (Within.cons name v Within.nil)
    refine wpAny_bind (wpAny_lookBehind hoD (by rw [hdD]; exact pastItsLine_dict (Nat.le_trans hcD (by rw [List.length_cons, List.length_nil, sizeLine_eq]; omega))) ?_)
    wp_walk
    refine hq h' _ _ ?_ hn' (fun y => rfl) (fun b ob hbx hb => ?_)
    · refine (hs.2 x hxs).trans (Heap.get?_update_self _ hx₁ ?_)
      exact Obj.isFreed_of_fields hdat
    · exact (hs.2 b (Nat.ne_of_lt (Heap.lt_size hb))).trans ((Heap.get?_update_ne _ _ _ _ hbx).trans (Heap.get?_push_of_some _ hb))

theorem store_new_call (SF : StoreFacts B bm sa owner) {tk : Tok} {o : Obj} {R : Result → Shared → Prop}
    (hC : h.get? C = some (excClassObj nm q C N bs bm true sn sub false col dd k0 k1 k2 k3 k5 newId))
    (hn : h.Ns N mN) (hna : mN name = none) (hB : typeLookup (.type B) name = pure none)
    (hx : h.get? x = some o) (hc : o.cls = .ref C) (hdn : o.dict = none) (hdat : o.data = .fields fs)
    (hq : ∀ h' tk' m, h'.get? x = some { o with dict := some h.objs.size } → h'.Ns1 h.objs.size m → (∀ y, m y = if y = name then some v else none) → (∀ b o, b ≠ x → h.get? b = some o → h'.get? b = some o) → R (.ok (.ret .none)) ⟨h', g, d, tk', os⟩) :
    codeAny (model W.prog W.w) A (.call (.builtin sa) ⟨[.ref x, .str name tk, v], []⟩) R ⟨h, g, d, t, os⟩ :=
  codeAny_call_builtin SF.slot.plain SF.entry (wpAny_check_sa SF hC hx hc (store_new_entry SF hC hn hna hB hx hc hdn hdat hq))

/-- the first store into an object without a record of names -/
theorem store_new (SF : StoreFacts B bm sa owner) {o : Obj} {Q : Unit → Shared → Prop}
    (hC : h.get? C = some (excClassObj nm q C N bs bm true sn sub false col dd k0 k1 k2 k3 k5 newId))
    (hn : h.Ns N mN) (hns : mN "__setattr__" = none) (hna : mN name = none) (hB : typeLookup (.type B) name = pure none)
    (hx : h.get? x = some o) (hc : o.cls = .ref C) (hdn : o.dict = none) (hdat : o.data = .fields fs)
    (hq : ∀ h' tk' m, h'.get? x = some { o with dict := some h.objs.size } → h'.Ns1 h.objs.size m → (∀ y, m y = if y = name then some v else none) → (∀ b o, b ≠ x → h.get? b = some o → h'.get? b = some o) → Q () ⟨h', g, d, tk', os⟩) :
    wpAny (model W.prog W.w) A (setAttr (.ref x) name v) Q E ⟨h, g, d, t, os⟩ := by
  have f3 := SF.slot.bind (.ref x)
  unfold setAttr callSpecial? specialOf
  repeat (any_goals (first | assumption | (with_reducible refine wpAny_loadPart_at hx ?_; rw [hc]) | (with_reducible refine wpAny_typeLookup_exc hC hn SF.mro SF.slot.lookup ?_; rw [hns]) | wp_step))
  refine store_new_call SF hC hn hna hB hx hc hdn hdat (fun h' tk' m I1 I2 I3 I4 => ?_)
  repeat (any_goals (first | assumption | wp_step))
  exact hq h' tk' m I1 I2 I3 I4
end
end
end
section
variable {W : Wd} {b : Nat} {sc : Scope} {σ : Env}

theorem init_bind (pm cd doc : Value) (a b c : Value) : bindArgs (methDef (Str.ofString "__init__") (Str.ofString "CasFail.__init__") (argsS initS) (bodyS initS) (scopeS initS) pm cd doc) ⟨[a,b,c], []⟩ = pure [(Str.ofString "self", a), (Str.ofString "kind", b), (Str.ofString "text", c)] := by kernel_rfl!

theorem Room.under {b : Nat} {A : Around} {C : Addr} {vs : List Value} (r : Room (b + 1) A) : Room b (A.under (.builtin "type.__call__" ⟨.ref C :: vs, []⟩)) := by
  obtain ⟨x, y⟩ := r
  refine ⟨?_, ?_⟩
  · show A.depth + 1 + b ≤ 600; omega
  · show A.units + 1 + 20 * b ≤ 9000; omega

theorem xB {n : String} (h : n = "kind" ∨ n = "text") : typeLookup (.type "Exception") (Str.ofString n) = pure none := by
  rcases h with rfl | rfl <;> (rw [typeLookup_type, builtinLookup_eq_fast]; kernel_rfl!)

abbrev σi (x : Addr) (dm tx : Str) : Env := [(Str.ofString "self", .adr x), (Str.ofString "kind", .str dm), (Str.ofString "text", .str tx)]

theorem lookup3 {α : Type} {a b c : Str} {u v w : α} (h1 : a ≠ b) (h2 : a ≠ c) (h3 : b ≠ c) (y : Str) : ([(a, u), (b, v), (c, w)] : List (Str × α)).reverse.lookup y = ([(a, u), (b, v), (c, w)] : List (Str × α)).lookup y := by
  simp only [List.reverse_cons, List.reverse_nil, List.nil_append, List.cons_append, List.lookup_cons, List.lookup_nil]
  by_cases ha : y = a
  · subst ha; simp [h1, h2, beq_eq_false_iff_ne.mpr h1, beq_eq_false_iff_ne.mpr h2]
  · by_cases hb : y = b
    · subst hb; simp [beq_eq_false_iff_ne.mpr h3, beq_eq_false_iff_ne.mpr ha]
    · by_cases hc : y = c
      · subst hc; simp [beq_eq_false_iff_ne.mpr ha, beq_eq_false_iff_ne.mpr hb]
      · simp [beq_eq_false_iff_ne.mpr ha, beq_eq_false_iff_ne.mpr hb, beq_eq_false_iff_ne.mpr hc]

theorem Cx.more {A : Around} {X : List Addr} {h h' : Heap} {I : Addr} (c : Cx W b A X h) (k : Keep h h') (n : h.get? I = none) (q : ∃ o, h'.get? I = some o) : Cx W b A (I :: X) h' := by
  refine ⟨c.room, fun x hx => ?_, c.top.keep (g_more k.chg n), c.hok.keep (g_more k.chg n)⟩
  rcases List.mem_cons.mp hx with rfl | hx
  · exact q
  · exact k.lt (c.has x hx)

/-- what holds when the init begins -/
theorem init_env {A : Around} {X : List Addr} {h h' h₁ : Heap} {x f : Addr} {dm tx : Str} {t1 t2 : Tok} {pm cd doc : Value} (cx : Cx W (b + 1) A X h) (k : Keep h h') (k1 : Keep h' h₁)
    (ns : h₁.Ns h'.objs.size (fun y => [(Str.ofString "self", Value.ref x), (Str.ofString "kind", Value.str dm t1), (Str.ofString "text", Value.str tx t2)].reverse.lookup y)) :
    EnvOK W b (scopeS initS) (A.deeper (callEnv (methDef (Str.ofString "__init__") (Str.ofString "CasFail.__init__") (argsS initS) (bodyS initS) (scopeS initS) pm cd doc) h'.objs.size f)) (callEnv (methDef (Str.ofString "__init__") (Str.ofString "CasFail.__init__") (argsS initS) (bodyS initS) (scopeS initS) pm cd doc) h'.objs.size f)
      (σi x dm tx) (h'.objs.size :: X) h₁ := by
  have nL := none_of_size h'
  have c2 := (cx.keep k).more k1 nL (let ⟨o, _, _, e, _⟩ := ns; ⟨o, e⟩)
  refine ⟨rfl, by kernel_rfl!, rfl, rfl, cx.room.deeper, .head _, c2.has, c2.top, c2.hok, _, ns, fun y d hy => ?_⟩
  have nd1 : Str.ofString "self" ≠ Str.ofString "kind" := by decide
  have nd2 : Str.ofString "self" ≠ Str.ofString "text" := by decide
  have nd3 : Str.ofString "kind" ≠ Str.ofString "text" := by decide
  unfold VarAt
  dsimp only
  rw [lookup3 nd1 nd2 nd3 y]
  simp only [σi, List.lookup_cons, List.lookup_nil] at hy ⊢
  by_cases ha : y = Str.ofString "self"
  · subst ha
    simp only [beq_self_eq_true] at hy ⊢
    cases hy
    exact ⟨_, .adr x, .inl ⟨by kernel_rfl!, rfl⟩⟩
  · rw [beq_eq_false_iff_ne.mpr ha] at hy ⊢
    by_cases hb : y = Str.ofString "kind"
    · subst hb
      simp only [beq_self_eq_true] at hy ⊢
      cases hy
      exact ⟨_, .str dm t1, .inl ⟨by kernel_rfl!, rfl⟩⟩
    · rw [beq_eq_false_iff_ne.mpr hb] at hy ⊢
      by_cases hc : y = Str.ofString "text"
      · subst hc
        simp only [beq_self_eq_true] at hy ⊢
        cases hy
        exact ⟨_, .str tx t2, .inl ⟨by kernel_rfl!, rfl⟩⟩
      · rw [beq_eq_false_iff_ne.mpr hc] at hy
        cases hy

theorem init_cell : ∀ x ∈ (scopeS initS).names, x.2 ≠ .cell := fun y hy => by
  have h : (scopeS initS).names.all (fun x => x.2 != .cell) = true := by kernel_rfl!
  simpa using List.all_eq_true.mp h y hy
theorem init_loc {a b c : Value} : ∀ x ∈ [(Str.ofString "self", a), (Str.ofString "kind", b), (Str.ofString "text", c)], (scopeS initS).names.lookup x.1 = some .local := fun x hx => by
  simp only [List.mem_cons, List.not_mem_nil, or_false] at hx
  rcases hx with rfl | rfl | rfl <;> kernel_rfl!

theorem init_fr {h : Heap} {L : Addr} {m : Str → Option Value} (n : h.Ns L m) : Fr {} L h m := ⟨n, fun b o e => by simp [Heap.get?] at e, Nat.zero_le _⟩

theorem nil_in {h : Heap} : Frag.In [] h := fun _ _ q => by cases q
theorem exc_ty : typeOf (.type "Exception") = pure (.type "type") := by kernel_rfl!
theorem exc_stub : Manifest.isStub "Exception" = false := by kernel_rfl!
theorem exc_handed : handedIn (.builtin "Exception.__init__") = true := by kernel_rfl!
/-- a CasFail is made -/
theorem make_fail (F0 : Fa W) {A : Around} {X : List Addr} {s : Shared} {vs : List Value} {Q E : Value → Shared → Prop} {C : Addr} (cx : Cx W 3 A X s.heap) (hC : W.mg (Str.ofString "CasFail") = some (.ref C)) (rs : RVs W (G X s.heap) vs [.str (Str.ofString "domain"), .str (Str.ofString "factorial below 0")])
    (h : ∀ h' tk' x dd t0 m t, Keep s.heap h' → s.heap.get? x = none → h'.get? x = some { cls := .ref C, dict := some dd, data := .fields #[.ref t0, .none, .none, .none, .bool false, .none] } → s.heap.get? dd = none → dd ≠ x → h'.Ns1 dd m → m (Str.ofString "kind") = some (.str (Str.ofString "domain") t) → Q (.ref x) { s with heap := h', toks := tk' }) :
    wpAny (model W.prog W.w) A (call (.ref C) vs) Q E s := by
  obtain ⟨C', N, mN, oC, f, o, pm, doc, c, h1, h2, ⟨nm, q, bs, sn, sub, col, dd0, p0, p1, p2, p3, p5, rfl⟩, h3, h4, h5, h6, h7, h8, h9⟩ := cx.top.cf.ex
  rw [hC] at h1; cases h1
  obtain ⟨_, _, e1, q1, qs1⟩ := rs.inv_cons
  subst e1
  obtain ⟨_, _, e2, q2, qs2⟩ := qs1.inv_cons
  subst e2
  obtain rfl := qs2.inv_nil
  obtain ⟨t1, rfl⟩ := q1.inv
  obtain ⟨t2, rfl⟩ := q2.inv
  generalize edm : Str.ofString "domain" = dm at *
  generalize etx : Str.ofString "factorial below 0" = tx at *
  have l1 : (dm ++ Str.ofString ": ").length + tx.length ≤ 1000 := by rw [← edm, ← etx]; decide
  have l2 : dm.length + (Str.ofString ": ").length ≤ 1000 := by rw [← edm]; decide
  obtain ⟨hh, g, d, t, os⟩ := s
  dsimp only at *
  refine wpAny_call_exc_init F.excBase_Exception (g_sub _ _ h2) (h3.keeps g_sub) h4 (g_sub _ _ h6) h7 (fun h' x Mk => ?_) (by show 2 ≤ sizeLine; rw [sizeLine_is]; omega)
  have k1 : Keep hh h' := Mk.keeps
  refine wpAny_call (codeAny_call_def (fd := methDef (Str.ofString "__init__") (Str.ofString "CasFail.__init__") (argsS initS) (bodyS initS) (scopeS initS) pm (.ref c) doc) (body := bodyS initS) (binds := [(Str.ofString "self", .ref x), (Str.ofString "kind", .str dm t1), (Str.ofString "text", .str tx t2)])
    cx.room.under.depth (k1 _ _ (g_sub _ _ h6)) h8 (cx.top.lim.keeps fun b o e => k1 _ _ (g_sub _ _ e)) (h9.keeps fun b o e => k1 _ _ (g_sub _ _ e)) rfl (.of_eq (init_bind _ _ _ _ _ _)) init_cell init_loc (fun h₁ hns hk₁ => ?_) rfl rfl rfl)
  obtain ⟨t0, hx, ht0, hto⟩ := Mk.there
  have x0 : hh.get? x = none := Mk.new
  have cx' : Cx W 3 A (x :: X) h' := cx.more k1 x0 ⟨_, hx⟩
  have e : EnvOK W 1 _ _ _ _ _ _ := init_env (f := f) (pm := pm) (cd := .ref c) (doc := doc) (b := 1) (A := A.under (.builtin "type.__call__" ⟨.ref C :: [.str dm t1, .str tx t2], []⟩)) ⟨cx'.room.under, cx'.has, cx'.top, cx'.hok⟩ Keep.rfl' hk₁ hns
  have Li : (callEnv (methDef (Str.ofString "__init__") (Str.ofString "CasFail.__init__") (argsS initS) (bodyS initS) (scopeS initS) pm (.ref c) doc) h'.objs.size f).locals = h'.objs.size := rfl
  show wpAny _ (Around.deeper _ _) _ _ _ _
  generalize callEnv (methDef (Str.ofString "__init__") (Str.ofString "CasFail.__init__") (argsS initS) (bodyS initS) (scopeS initS) pm (.ref c) doc) h'.objs.size f = env at *
  generalize (Around.under A (.builtin "type.__call__" ⟨.ref C :: [.str dm t1, .str tx t2], []⟩)).deeper env = A1 at *
  have ek : env.scope.kind = .function := by rw [e.scope]; exact e.kind
  have xL : x ≠ env.locals := by rw [Li]; exact Nat.ne_of_lt (Heap.lt_size hx)
  rw [← Li] at e
  generalize (fun (e : Value) (s' : Shared) => wpAny (model W.prog W.w) A1 (leaving env e) _ _ s') = E1
  conv => arg 3; arg 1; whnf
  have hx1 := hk₁ _ _ hx
  have kC : ∀ {h : Heap}, (∀ b o, b ≠ x → hh.get? b = some o → h.get? b = some o) → h.get? C = some (excClassObj nm q C N bs [.type "Exception", .type "BaseException", .type "object"] true sn sub false col dd0 p0 p1 p2 p3 p5 "Exception.__new__") := fun kk => kk _ _ (fun z => by have := g_sub _ _ h2; rw [z, x0] at this; cases this) (g_sub _ _ h2)
  have kN : ∀ {h : Heap}, (∀ b o, b ≠ x → hh.get? b = some o → h.get? b = some o) → h.Ns N mN := fun kk => by
    obtain ⟨o, es, ep, eo, r⟩ := h3
    exact ⟨o, es, ep, kk _ _ (fun z => by have := g_sub _ _ eo; rw [z, x0] at this; cases this) (g_sub _ _ eo), r⟩
  refine wpAny_execs_cons (wpAny_Expr (hi := by unfold interactive; rw [ek]; rfl) (hs := rfl) ?_)
  refine MethodCall_ (name_bi (F0.bin (v := .type "Exception") (by decide) (by decide) rfl) (by kernel_rfl!) (by kernel_rfl!) e ?_)
  refine method_type (T := "Exception") (v := .builtin "Exception.__init__") (K := []) (h₀ := {}) (init_fr hns) nil_in exc_ty exc_stub init_type exc_handed ?_
  refine callWith_builtin1 (he := rfl) (hplain := rfl) ((evs_cons (W := W) (b := 1) (sc := scopeS initS) (σ := σi x dm tx) (d := .adr x) (ds := [.str (dm ++ Str.ofString ": " ++ tx)]) ?_ (evs_cons ?_ evs_nil (fun _ => rfl)) (fun _ => rfl)).go _ env _ _ _ _ _ e fun vs h₂ t₂ k₂ r₂ => ?_)
  · exact ev_var (by kernel_rfl!) (by kernel_rfl!)
  · exact ev_bin (ev_bin (ev_var (by kernel_rfl!) (by kernel_rfl!)) ev_str (op_addS l2)) (ev_var (by kernel_rfl!) (by kernel_rfl!)) (op_addS l1)
  cases r₂ with
  | cons q1 q2 =>
  cases q2 with
  | cons q2 q3 =>
  cases q3
  cases q1
  rename_i v2
  have hx2 := k₂ _ _ hx1
  have kk2 : ∀ b o, b ≠ x → hh.get? b = some o → h₂.get? b = some o := fun b o _ eb => k₂ _ _ (hk₁ _ _ (k1 _ _ eb))
  refine base_init (kC kk2) hx2 rfl rfl rfl ?_
  generalize h3e : ((h₂.push { cls := .type "tuple", data := .seq #[v2] }).update x (Obj.mapFields (·.setIfInBounds 0 (.ref h₂.objs.size)))) = hb3
  have hx3 : hb3.get? x = some { cls := .ref C, data := .fields #[.ref h₂.objs.size, .none, .none, .none, .bool false, .none] } := by
    rw [← h3e]; exact Heap.get?_update_self _ (Heap.get?_push_of_some _ hx2) rfl
  have c23 : Chg [x] h₂ hb3 := fun b o hb eb => by
    rw [← h3e]; exact (Heap.get?_update_other _ _ (fun q => hb (by simp [q]))).trans (Heap.get?_push_of_some _ eb)
  have e3 := (e.keep k₂).turn c23 (.tail _ (.head _)) xL ⟨_, hx3⟩
  have kk3 : ∀ b o, b ≠ x → hh.get? b = some o → hb3.get? b = some o := fun b o nb eb => c23 b o (by simpa using nb) (kk2 b o nb eb)
  dsimp only
  refine wpAny_execs_cons (plainObj_wpAny_Assign_Attribute ((ev_var (W := W) (b := 1) (sc := scopeS initS) (σ := σi x dm tx) (d := .str dm) (by kernel_rfl!) (by kernel_rfl!)).go _ env _ _ _ _ e3 fun v h₄ t₄ k₄ r₄ => ?_))
  refine (ev_var (W := W) (b := 1) (sc := scopeS initS) (σ := σi x dm tx) (d := .adr x) (by kernel_rfl!) (by kernel_rfl!)).go _ env _ _ _ _ (e3.keep k₄) fun v' h₅ t₅ k₅ r₅ => ?_
  cases r₅
  have r₄ := r₄.keep (g_keep k₅)
  cases r₄ with
  | str _ tk4 =>
  have hx5 := k₅ _ _ (k₄ _ _ hx3)
  have kk5 : ∀ b o, b ≠ x → hh.get? b = some o → h₅.get? b = some o := fun b o nb eb => k₅ _ _ (k₄ _ _ (kk3 b o nb eb))
  refine store_new F.store_Exception (kC kk5) (kN kk5) (h5 _ (by decide)) (h5 _ (by decide)) (xB (.inl rfl)) hx5 rfl rfl rfl fun h₆ t₆ m6 hx6 n6 m6e c6 => ?_
  have e6 := ((e3.keep k₄).keep k₅).turn (fun b o hb eb => c6 b o (by simpa using hb) eb) (.tail _ (.head _)) xL ⟨_, hx6⟩
  have kk6 : ∀ b o, b ≠ x → hh.get? b = some o → h₆.get? b = some o := fun b o nb eb => c6 b o nb (kk5 b o nb eb)
  have ddn : hh.get? h₅.objs.size = none := by
    cases z : hh.get? h₅.objs.size with
    | none => rfl
    | some o =>
      have := kk5 _ o (fun q => by rw [q, x0] at z; cases z) z
      exact absurd (Heap.lt_size this) (Nat.lt_irrefl _)
  have ddx : h₅.objs.size ≠ x := Nat.ne_of_gt (Heap.lt_size hx5)
  generalize h₅.objs.size = dd at *
  refine wpAny_execs_cons (plainObj_wpAny_Assign_Attribute ((ev_var (W := W) (b := 1) (sc := scopeS initS) (σ := σi x dm tx) (d := .str tx) (by kernel_rfl!) (by kernel_rfl!)).go _ env _ _ _ _ e6 fun v h₇ t₇ k₇ r₇ => ?_))
  refine (ev_var (W := W) (b := 1) (sc := scopeS initS) (σ := σi x dm tx) (d := .adr x) (by kernel_rfl!) (by kernel_rfl!)).go _ env _ _ _ _ (e6.keep k₇) fun v' h₈ t₈ k₈ r₈ => ?_
  cases r₈
  have hx8 := k₈ _ _ (k₇ _ _ hx6)
  have kk8 : ∀ b o, b ≠ x → hh.get? b = some o → h₈.get? b = some o := fun b o nb eb => k₈ _ _ (k₇ _ _ (kk6 b o nb eb))
  have n8 : h₈.Ns1 dd m6 := let ⟨o, es, ep, e1, r⟩ := n6; ⟨o, es, ep, k₈ _ _ (k₇ _ _ e1), r⟩
  have I : h₈.Inst x C m6 := ⟨_, hx8, rfl, (fun c q => by cases q), .inr ⟨dd, rfl, ddx, n8⟩⟩
  have xC : x ≠ C := fun q => by have := g_sub _ _ h2; rw [← q, x0] at this; cases this
  have mk6 : m6 (Str.ofString "kind") = some (.str dm tk4) := by rw [m6e]; simp
  have w6 : Within m6 [Str.ofString "kind"] := fun y hy => by
    rw [m6e] at hy
    by_cases q : y = Str.ofString "kind"
    · simp [q]
    · rw [if_neg q] at hy; exact absurd rfl hy
  refine store_attr F.store_Exception (kC kk8) (kN kk8) (h5 _ (by decide)) (h5 _ (by decide)) (xB (.inr rfl)) xC I (fun h₉ t₉ I9 c9 s9 => ?_) w6 (by show 1 ≤ sizeLine; rw [sizeLine_is]; omega)
  obtain ⟨o9, hx9, cx9, dx9, sx9, dc9⟩ := s9 _ hx8
  obtain ⟨o9', hx9', _, _, dd9⟩ := I9
  rw [hx9] at hx9'; cases hx9'
  have q9 := dc9 dd rfl
  have o9e : o9 = { cls := .ref C, dict := some dd, data := .fields #[.ref h₂.objs.size, .none, .none, .none, .bool false, .none] } := by
    obtain ⟨c, d, dt, sl⟩ := o9
    cases cx9; cases dx9; cases sx9; cases q9; rfl
  rcases dd9 with ⟨z, _⟩ | ⟨dd', z, _, n9⟩
  · rw [q9] at z; cases z
  rw [q9] at z; cases z
  refine wpAny_execs_nil ⟨rfl, h h₉ t₉ x dd _ _ tk4 (fun b o eb => ?_) x0 (hx9.trans (by rw [o9e])) ddn ddx n9 ?_⟩
  · have nb : b ≠ x := fun q => by rw [q, x0] at eb; cases eb
    refine c9 b o nb (fun o₀ dx z1 z2 q => ?_) (kk8 b o nb eb)
    rw [hx8] at z1; cases z1; cases z2
    rw [q, ddn] at eb; cases eb
  · show (if Str.ofString "kind" = Str.ofString "text" then _ else m6 (Str.ofString "kind")) = _
    rw [if_neg (by decide)]; exact mk6
end
/-- a CasFail that no frame has noted yet -/
structure Raw (W : Wd) (l : List PySem.Env) (X Y : List Addr) (h h' : Heap) (x : Addr) : Prop where
  keep : Keep (G X h) h'
  ext : ∀ b, (∃ o, h.get? b = some o) → ∃ o, h'.get? b = some o
  ups : Ups Y h h'
  new : h.get? x = none
  obj : ∃ C dd cx vs sl m t, W.mg (Str.ofString "CasFail") = some (.ref C) ∧ h'.get? x = some { cls := .ref C, dict := some dd, data := .fields vs, slots := sl } ∧ vs[1]? = some .none ∧ vs[2]? = some cx ∧ (W.hn = true → cx = .none) ∧
    h.get? dd = none ∧ dd ≠ x ∧ h'.Ns1 dd m ∧ m (Str.ofString "kind") = some (.str (Str.ofString "domain") t)
  frames : h'.FunFrames (G X h) l

section
variable {W : Wd} {M : Model} {A : Around} {s : Shared} {X Y : List Addr} {h : Heap} {x : Addr} {l outer : List PySem.Env} {env : PySem.Env} {L : Addr}

theorem note_first {Q : Unit → Shared → Prop} {E : Value → Shared → Prop} (F : Raw W (env :: outer) X Y h s.heap x) (hfr : A.frames = some (env :: outer)) (hf : env.frame = some L)
    (q : ∀ h', Fly W (env :: outer) X Y h h' x (rawInt L) → Q () { s with heap := h' }) : wpAny M A (noteFrame (.ref x) env) Q E s := by
  obtain ⟨hkeep, hext, hups, hnew, ⟨C, dd, cx, vs, sl, m, t, c1, hx, h1, h2, hcx, ddn, ddx, hm, hmk⟩, hfun⟩ := F
  unfold noteFrame
  simp only [hf]
  refine wpAny_bind (wpAny_field hx rfl h1 ?_)
  rw [if_neg (show ¬ ((Value.none != Value.none) = true) from by simp)]
  have hz1 : 1 < vs.size := (Array.getElem?_eq_some_iff.mp h1).1
  have nfx : ∀ b o, s.heap.get? b = some o → NoF o → b ≠ x := fun b o e n z => by subst z; rw [hx] at e; cases e; exact n _ rfl
  refine wpAny_bind (wpAny_frameOf_fun hfr hfun hf fun gB hB => ?_)
  refine wpAny_bind (wpAny_entryPlaceOf fun pl hpl => ?_)
  unfold EntryCells.newEntry newFields
  refine wpAny_bind (wpAny_newObj_type ?_ (hpl.sizeOk5 _ _ _ _ _))
  have xS : x ∉ (env :: outer).filterMap (·.frame) := fun hmem => by
    obtain ⟨_, o, ho, hn⟩ := hfun.mem hmem
    exact nfx _ _ ho hn rfl
  have xB : gB.get? x = some { cls := .ref C, dict := some dd, data := .fields vs, slots := sl } := (hB.2.1 x xS).trans hx
  generalize hTb : ([Value.none, .ref L, .none, rawInt L, .none] ++ (if pl.isEmpty then List.replicate 6 Value.none else pl)) = tb
  have htb3 : tb.toArray[3]? = some (rawInt L) := by rw [← hTb]; rfl
  have hx2 : (gB.push { cls := .type "traceback", dict := none, data := .fields tb.toArray }).get? x = some { cls := .ref C, dict := some dd, data := .fields vs, slots := sl } := Heap.get?_push_of_some _ xB
  have hTe : gB.objs.size ≠ x := Nat.ne_of_gt (Heap.lt_size xB)
  refine wpAny_setField hx2 rfl hz1 (q _ ?_)
  have hx3 := Heap.get?_update_self (Obj.mapFields (·.setIfInBounds 1 (Value.ref gB.objs.size))) hx2 rfl
  have hT3 : ((gB.push { cls := .type "traceback", dict := none, data := .fields tb.toArray }).update x (Obj.mapFields (·.setIfInBounds 1 (Value.ref gB.objs.size)))).get? gB.objs.size = some { cls := .type "traceback", dict := none, data := .fields tb.toArray } :=
    (Heap.get?_update_other _ _ (Ne.symm hTe)).trans (Heap.get?_push_size gB rfl)
  have up : ∀ b o, b ≠ x → gB.get? b = some o → ((gB.push { cls := .type "traceback", dict := none, data := .fields tb.toArray }).update x (Obj.mapFields (·.setIfInBounds 1 (Value.ref gB.objs.size)))).get? b = some o := fun b o hb e =>
    (Heap.get?_update_other _ _ (Ne.symm hb)).trans (Heap.get?_push_of_some _ e)
  have ups1 : Ups [] s.heap ((gB.push { cls := .type "traceback", dict := none, data := .fields tb.toArray }).update x (Obj.mapFields (·.setIfInBounds 1 (Value.ref gB.objs.size)))) := fun b o _ e n => by
    obtain ⟨sl', e2⟩ := hB.2.2 b o e
    exact ⟨sl', up b _ (nfx b o e n) e2⟩
  have inB : ∀ b o, s.heap.get? b = some o → ∃ o', gB.get? b = some o' := fun b o e => by
    obtain ⟨sl', e2⟩ := hB.2.2 b o e
    exact ⟨_, e2⟩
  refine ⟨fun b o e => ?_, fun b hb => ?_, hups.trans (ups1.mono (by simp)), ⟨hnew, C, dd, gB.objs.size, cx, _, sl, _, _, m, t, c1, hx3, ?_, ?_, hcx, ddn, ddx, ns1_ups ups1 (by simp) hm, hmk, ?_, hTe, hT3, rfl, htb3⟩, funf_ups hfun fun b o _ e n => ups1 b o (by simp) e n⟩
  · have e0 := hkeep b o e
    have bx : b ≠ x := fun z => by subst z; have := g_sub _ _ e; rw [hnew] at this; cases this
    have bS : b ∉ (env :: outer).filterMap (·.frame) := fun hmem => by
      have := (hfun.mem hmem).1
      rw [e] at this; cases this
    exact up b o bx ((hB.2.1 b bS).trans e0)
  · obtain ⟨o1, h1⟩ := hext b hb
    by_cases z : b = x
    · subst z; exact ⟨_, hx3⟩
    · obtain ⟨o2, h2⟩ := inB _ _ h1
      exact ⟨_, up b o2 z h2⟩
  · simp [hz1]
  · rw [Array.getElem?_setIfInBounds_ne (by decide)]; exact h2
  · cases z : h.get? gB.objs.size with
    | none => rfl
    | some o =>
      exfalso
      obtain ⟨o1, h1⟩ := hext _ ⟨_, z⟩
      obtain ⟨o', e'⟩ := inB _ _ h1
      exact absurd (Heap.lt_size e') (Nat.lt_irrefl _)

theorem leave_first {Q : Unit → Shared → Prop} {E : Value → Shared → Prop} (F : Raw W (env :: outer) X Y h s.heap x) (hfr : A.frames = some (env :: outer)) (hf : env.frame = some L)
    (q : ∀ h', Fly W (env :: outer) X Y h h' x .none → Q () { s with heap := h' }) : wpAny M A (leaving env (.ref x)) Q E s := by
  unfold leaving
  exact wpAny_bind (note_first F hfr hf fun h1 F1 => flight_step (s := { s with heap := h1 }) (fr := none) F1 fun h2 F2 _ => q h2 F2)

theorem funf_to {h h' base base' : Heap} {l : List PySem.Env} (f : h.FunFrames base l) (k : ∀ b o, base.get? b = none → h.get? b = some o → NoF o → base'.get? b = none ∧ ∃ o', h'.get? b = some o' ∧ NoF o') : h'.FunFrames base' l := by
  induction l with
  | nil => trivial
  | cons env rest ih =>
    obtain ⟨hk, ⟨L, o, hf, hn, ho, hd⟩, hr⟩ := f
    obtain ⟨hn', o', ho', hd'⟩ := k L o hn ho hd
    exact ⟨hk, ⟨L, o', hf, hn', ho', hd'⟩, ih hr⟩
end

section
variable {W : Wd} {A : Around} {env : PySem.Env}
/-- raised anew -/
theorem raise_new {s : Shared} {Q : Flow → Shared → Prop} {E : Value → Shared → Prop} {m : Sem Value}
    (hm : wpAny (model W.prog W.w) A m (fun v s => ∃ (x C dd t0 : Addr) (nm q : Str) (N : Addr) (bs : List Value) (sn : List Str) (sub : List Value) (col : Option Bool) (cd : Option Addr) (k0 k1 k2 k3 k5 : Option Value), v = .ref x ∧ s.heap.get? C = some (excClassObj nm q C N bs [.type "Exception", .type "BaseException", .type "object"] true sn sub false col cd k0 k1 k2 k3 k5 "Exception.__new__") ∧
      s.heap.get? x = some { cls := .ref C, dict := some dd, data := .fields #[.ref t0, .none, .none, .none, .bool false, .none] } ∧ HOk W A s.heap ∧ A.handled ≠ some (.ref x) ∧
      ∀ h' cx vs, Chg [x] s.heap h' → h'.get? x = some { cls := .ref C, dict := some dd, data := .fields vs } → vs[1]? = some .none → vs[2]? = some cx → (W.hn = true → cx = .none) → E (.ref x) { s with heap := h' }) E s) :
    wpAny (model W.prog W.w) A (raiseStmt env (some m) none) Q E s := by
  unfold raiseStmt
  refine wpAny_bind (wpAny_mono hm (fun v s₁ h₁ => ?_) fun _ _ x => x)
  obtain ⟨x, C, dd, t0, nm, q, N, bs, sn, sub, col, cd, k0, k1, k2, k3, k5, rfl, hC, he, hk, hx, hE⟩ := h₁
  have hcB : (Value.ref C :: [.type "Exception", .type "BaseException", .type "object"]).contains (.type "BaseException") = true := by rw [List.contains_cons]; rfl
  obtain ⟨hp, g, d, tk, os⟩ := s₁
  repeat (first | with_reducible refine wpAny_loadPart_at he ?_ | with_reducible refine wpAny_loadPart_at hC ?_ | (with_reducible refine wpAny_isSubtype_exc hC ?_; rw [hcB]) | wp_step)
  unfold raiseNew
  refine wpAny_bind (wpAny_handled ?_)
  rcases hk with hk | ⟨hn, e, oe, es, hk, he', hde, h2⟩
  · rw [hk]
    exact wpAny_bind (wpAny_pure (wpAny_throw (hE hp .none _ (fun _ _ _ e => e) he rfl rfl fun _ => rfl)))
  · rw [hk]
    have hne : (Value.ref e != Value.ref x) = true := by
      rw [hk] at hx
      simpa using fun q => hx (by rw [q])
    show wpAny _ _ (if (Value.ref e != Value.ref x) = true then _ else _) _ _ _
    rw [if_pos hne]
    refine wpAny_bind ((wpAny_holding (wpAny_runValue (codeAny_builtin entry_unchain ?_))))
    show wpAny _ _ (field (.ref e) 2 >>= _) _ _ _
    refine wpAny_bind (wpAny_field he' hde h2 ?_)
    show wpAny _ _ (if (Value.none == Value.none) = true then _ else _) _ _ _
    rw [if_pos (show (Value.none == Value.none) = true from by decide)]
    refine wpAny_pure ?_
    refine wpAny_bind (wpAny_updateField he rfl (show 2 < 6 by decide) ?_)
    refine wpAny_throw (hE _ (.ref e) _ (fun b ob hb eb => ?_) (Heap.get?_update_self _ he rfl) rfl rfl fun z => by rw [hn] at z; cases z)
    exact (Heap.get?_update_other _ _ (fun q => hb (by simp [q]))).trans eb

/-- the frames are in order -/
structure FrOK (A : Around) (X : List Addr) (h : Heap) (l : List PySem.Env) : Prop where
  fr : A.frames = some l
  ok : h.FunFrames (G X h) l

theorem FrOK.keep {X : List Addr} {h h' : Heap} {l : List PySem.Env} (f : FrOK A X h l) (k : Keep h h') : FrOK A X h' l :=
  ⟨f.fr, funf_to f.ok fun b o n e d => by
    refine ⟨?_, o, k _ _ e, d⟩
    cases z : (G X h').get? b with
    | none => rfl
    | some o' => rw [g_get e (g_not z)] at n; cases n⟩

/-- into a call's own frame -/
theorem FrOK.push {b : Nat} {sc : Scope} {σ : Env} {X : List Addr} {h h₁ : Heap} {l : List PySem.Env} (f : FrOK A X h l) (k : Keep h h₁) (nL : h.get? env.locals = none) (e : EnvOK W b sc (A.deeper env) env σ (env.locals :: X) h₁) (hf : env.frame = some env.locals) :
    FrOK (A.deeper env) (env.locals :: X) h₁ (env :: l) := by
  obtain ⟨m, n, _⟩ := e.loc
  obtain ⟨o, es, ep, ho, hd, _⟩ := n
  refine ⟨by show (A.frames.map _) = _; rw [f.fr]; rfl, ⟨by rw [e.scope, e.kind]; decide, ⟨env.locals, o, hf, hideAll_none _ (.head _), ho, fun vs q => by rw [hd] at q; cases q⟩, funf_to f.ok fun b o n e d => ⟨?_, o, k _ _ e, d⟩⟩⟩
  cases z : (G (env.locals :: X) h₁).get? b with
  | none => rfl
  | some o' => rw [g_get e (fun q => g_not z (.tail _ q))] at n; cases n

/-- past a statement -/
theorem FrOK.past {b : Nat} {sc : Scope} {σ : Env} {X : List Addr} {h h₁ : Heap} {l : List PySem.Env} (f : FrOK A X h l) (c : Chg [env.locals] h h₁) (e : EnvOK W b sc A env σ X h₁) : FrOK A X h₁ l := by
  refine ⟨f.fr, funf_to f.ok fun b o n eb d => ⟨?_, ?_⟩⟩
  · cases z : (G X h₁).get? b with
    | none => rfl
    | some o' => rw [g_get eb (g_not z)] at n; cases n
  · by_cases q : b = env.locals
    · subst q
      obtain ⟨m, n, _⟩ := e.loc
      obtain ⟨o, es, ep, ho, hd, _⟩ := n
      exact ⟨o, ho, fun vs q => by rw [hd] at q; cases q⟩
    · exact ⟨o, c _ _ (by simpa using q) eb, d⟩

/-- a def of the top, called, raises CasFail('domain', ..) -/
structure CallR (W V : Wd) (b : Nat) (f : Str) (ds : List D) : Prop where
  isfn : IsFn f
  go : ∀ (A : Around) (X : List Addr) (l : List PySem.Env) (s : Shared) (a : Addr) (vs : List Value) (Q E : Value → Shared → Prop), W.mg f = some (.ref a) → Cx W b A X s.heap → FrOK A X s.heap l → RVs W (G X s.heap) vs ds →
    (∀ h' tk' x, Fly V l X [] s.heap h' x .none → E (.ref x) { s with heap := h', toks := tk' }) → wpAny (model W.prog W.w) A (call (.ref a) vs) Q E s

theorem funf_base {h base base' : Heap} {l : List PySem.Env} (f : h.FunFrames base l) (k : Keep base' base) : h.FunFrames base' l :=
  funf_to f fun b o n e d => by
    refine ⟨?_, o, e, d⟩
    cases z : base'.get? b with
    | none => rfl
    | some o' => rw [k _ _ z] at n; cases n

/-- a flight, told from before -/
theorem Fly.pre {X X' Y Y' : List Addr} {h h₁ h' : Heap} {x : Addr} {fl : Value} {l l' : List PySem.Env} (F : Fly W l' X' Y' h₁ h' x fl) (k : Keep (G X h) (G X' h₁)) (e : ∀ b, (∃ o, h.get? b = some o) → ∃ o, h₁.get? b = some o) (u : Ups Y h h') (hl : ∀ (g b : Heap), g.FunFrames b l' → g.FunFrames b l) : Fly W l X Y h h' x fl := by
  obtain ⟨hkeep, hext, hups, ⟨hnew, C, dd, T, cx, vs, sl, oT, ts, m, t, c1, hx, h1, h2, hcx, ddn, ddx, hm, hmk, hTn, hTx, hT, hdT, h3⟩, hfun⟩ := F
  have nn : ∀ {y}, h₁.get? y = none → h.get? y = none := fun {y} q => by
    cases z : h.get? y with
    | none => rfl
    | some o => obtain ⟨o', e'⟩ := e _ ⟨o, z⟩; rw [q] at e'; cases e'
  exact ⟨fun b o eb => hkeep _ _ (k _ _ eb), fun b hb => hext _ (e _ hb), u, ⟨nn hnew, C, dd, T, cx, vs, sl, oT, ts, m, t, c1, hx, h1, h2, hcx, nn ddn, ddx, hm, hmk, nn hTn, hTx, hT, hdT, h3⟩, hl _ _ (funf_base hfun k)⟩

/-- a flight out of a call's frame -/
theorem Fly.out {X : List Addr} {h h₁ h' : Heap} {x : Addr} {fl : Value} {l : List PySem.Env} (F : Fly W (env :: l) (env.locals :: X) [env.locals] h₁ h' x fl) (k : Keep h h₁) (nL : h.get? env.locals = none) : Fly W l X [] h h' x fl :=
  F.pre (g_more k.chg nL) (fun b ⟨o, e⟩ => ⟨o, k _ _ e⟩) (fun b o _ e n => F.ups b o (fun q => by simp at q; subst q; rw [nL] at e; cases e) (k _ _ e) n) fun g b f => f.2.2
end
theorem Raw.pre {W : Wd} {X X' Y Y' : List Addr} {h h₁ h' : Heap} {x : Addr} {l l' : List PySem.Env} (F : Raw W l' X' Y' h₁ h' x) (k : Keep (G X h) (G X' h₁)) (e : ∀ b, (∃ o, h.get? b = some o) → ∃ o, h₁.get? b = some o) (u : Ups Y h h') (hl : ∀ (g b : Heap), g.FunFrames b l' → g.FunFrames b l) : Raw W l X Y h h' x := by
  obtain ⟨hkeep, hext, hups, hnew, ⟨C, dd, cx, vs, sl, m, t, c1, hx, h1, h2, hcx, ddn, ddx, hm, hmk⟩, hfun⟩ := F
  have nn : ∀ {y}, h₁.get? y = none → h.get? y = none := fun {y} q => by
    cases z : h.get? y with
    | none => rfl
    | some o => obtain ⟨o', e'⟩ := e _ ⟨o, z⟩; rw [q] at e'; cases e'
  exact ⟨fun b o eb => hkeep _ _ (k _ _ eb), fun b hb => hext _ (e _ hb), u, nn hnew, ⟨C, dd, cx, vs, sl, m, t, c1, hx, h1, h2, hcx, nn ddn, ddx, hm, hmk⟩, hl _ _ (funf_base hfun k)⟩

/-- it flies in a frame -/
def Flo (W : Wd) (env : PySem.Env) (l : List PySem.Env) (X Y : List Addr) (h h' : Heap) (x : Addr) : Prop := (∃ fl, Fly W (env :: l) X Y h h' x fl) ∨ Raw W (env :: l) X Y h h' x

theorem Flo.ups {W : Wd} {env : PySem.Env} {l : List PySem.Env} {X Y : List Addr} {h h' : Heap} {x : Addr} (F : Flo W env l X Y h h' x) : Ups Y h h' := by
  rcases F with ⟨fl, F⟩ | F
  · exact F.ups
  · exact F.ups
theorem Flo.pre {W : Wd} {env : PySem.Env} {l : List PySem.Env} {X X' Y Y' : List Addr} {h h₁ h' : Heap} {x : Addr} (F : Flo W env l X' Y' h₁ h' x) (k : Keep (G X h) (G X' h₁)) (e : ∀ b, (∃ o, h.get? b = some o) → ∃ o, h₁.get? b = some o) (u : Ups Y h h') : Flo W env l X Y h h' x := by
  rcases F with ⟨fl, F⟩ | F
  · exact .inl ⟨fl, F.pre k e u fun _ _ z => z⟩
  · exact .inr (F.pre k e u fun _ _ z => z)
/-- past a statement of the same frame -/
theorem Flo.past {V W : Wd} {b : Nat} {sc : Scope} {σ : Env} {A : Around} {env : PySem.Env} {l : List PySem.Env} {X : List Addr} {h h₁ h' : Heap} {x : Addr} (F : Flo V env l X [env.locals] h₁ h' x) (c : Chg [env.locals] h h₁) (e : EnvOK W b sc A env σ X h₁) : Flo V env l X [env.locals] h h' x :=
  F.pre (g_chg (c.mono fun y q => by simp at q; subst q; exact e.inX)) (fun b ⟨o, eb⟩ => by
    by_cases q : b = env.locals
    · subst q; exact e.has _ e.inX
    · exact ⟨o, c _ _ (by simpa using q) eb⟩) ((Ups.of_chg c).trans F.ups)
theorem Flo.keep {W : Wd} {env : PySem.Env} {l : List PySem.Env} {X Y : List Addr} {h h₁ h' : Heap} {x : Addr} (F : Flo W env l X Y h₁ h' x) (k : Keep h h₁) : Flo W env l X Y h h' x :=
  F.pre (g_keep k) (fun b ⟨o, eb⟩ => ⟨o, k _ _ eb⟩) ((Ups.of_keep k).trans F.ups)

theorem flo_leave {W : Wd} {M : Model} {A : Around} {env : PySem.Env} {l : List PySem.Env} {X Y : List Addr} {h : Heap} {s : Shared} {x : Addr} {Q : Unit → Shared → Prop} {E : Value → Shared → Prop} (F : Flo W env l X Y h s.heap x) (hfr : A.frames = some (env :: l)) (hf : env.frame = some env.locals)
    (q : ∀ h', Fly W (env :: l) X Y h h' x .none → Q () { s with heap := h' }) : wpAny M A (leaving env (.ref x)) Q E s := by
  rcases F with ⟨fl, F⟩ | F
  · exact leave_step F hfr hf q
  · exact leave_first F hfr hf q

section
variable {W V : Wd} {b : Nat} {sc : Scope} {σ : Env}

structure XsR (W V : Wd) (b : Nat) (sc : Scope) (σ : Env) (ss : List Stmt) : Prop where
  go : ∀ (A : Around) (env : PySem.Env) (X : List Addr) (l : List PySem.Env) (s : Shared) (Q : Flow → Shared → Prop) (E : Value → Shared → Prop), EnvOK W b sc A env σ X s.heap → FrOK A X s.heap (env :: l) → env.frame = some env.locals →
    (∀ h' tk' x, Flo V env l X [env.locals] s.heap h' x → E (.ref x) { s with heap := h', toks := tk' }) → wpAny (model W.prog W.w) A (execs ss env) Q E s
structure X1R (W V : Wd) (b : Nat) (sc : Scope) (σ : Env) (st : Stmt) : Prop where
  go : ∀ (A : Around) (env : PySem.Env) (X : List Addr) (l : List PySem.Env) (s : Shared) (Q : Flow → Shared → Prop) (E : Value → Shared → Prop), EnvOK W b sc A env σ X s.heap → FrOK A X s.heap (env :: l) → env.frame = some env.locals →
    (∀ h' tk' x, Flo V env l X [env.locals] s.heap h' x → E (.ref x) { s with heap := h', toks := tk' }) → wpAny (model W.prog W.w) A (exec st env) Q E s
structure EvR (W V : Wd) (b : Nat) (sc : Scope) (σ : Env) (e : Expr) : Prop where
  go : ∀ (A : Around) (env env0 : PySem.Env) (X : List Addr) (l : List PySem.Env) (s : Shared) (Q E : Value → Shared → Prop), EnvOK W b sc A env σ X s.heap → FrOK A X s.heap (env0 :: l) → env.frame = some env0.locals → env0.frame = some env0.locals →
    (∀ h' tk' x fl, Fly V (env0 :: l) X [] s.heap h' x fl → E (.ref x) { s with heap := h', toks := tk' }) → wpAny (model W.prog W.w) A (eval e env) Q E s

theorem Fly.flo {W : Wd} {env : PySem.Env} {l : List PySem.Env} {X Y : List Addr} {h h' : Heap} {x : Addr} {fl : Value} (F : Fly W (env :: l) X [] h h' x fl) : Flo W env l X Y h h' x :=
  Flo.pre (.inl ⟨fl, F⟩) Keep.rfl' (fun _ q => q) (F.ups.mono (by simp))
theorem Fly.keep' {W : Wd} {l : List PySem.Env} {X : List Addr} {h h₁ h' : Heap} {x : Addr} {fl : Value} (F : Fly W l X [] h₁ h' x fl) (k : Keep h h₁) : Fly W l X [] h h' x fl :=
  F.pre (g_keep k) (fun b ⟨o, eb⟩ => ⟨o, k _ _ eb⟩) ((Ups.of_keep k).trans F.ups) fun _ _ z => z

theorem xsr_cons {st : Stmt} {r : List Stmt} {τ : Env} (h1 : X1 W b sc σ st (.nxt τ)) (h2 : XsR W V b sc τ r) : XsR W V b sc σ (st :: r) := .mk fun A env X l s Q E e fo hf h =>
  wpAny_execs_cons (h1.go A env X s _ _ e fun f h₁ t₁ c₁ o₁ => by
    obtain ⟨rfl, e₁⟩ := o₁
    exact h2.go A env X l _ _ _ e₁ (fo.past c₁ e₁) hf fun h' tk' x F => h h' tk' x (F.past c₁ e₁))
theorem xsr_hd {st : Stmt} {r : List Stmt} (h1 : X1R W V b sc σ st) : XsR W V b sc σ (st :: r) := .mk fun A env X l s Q E e fo hf h =>
  wpAny_execs_cons (h1.go A env X l s _ _ e fo hf h)
theorem x1r_if {t : Expr} {x y : List Stmt} {p : Pos} (ht : Ts W b sc σ t true) (h1 : XsR W V b sc σ x) : X1R W V b sc σ (.If t x y p) := .mk fun A env X l s Q E e fo hf h =>
  wpAny_If (ht.go A env X s _ _ e fun h₁ t₁ k₁ => h1.go A env X l _ _ _ (e.keep k₁) (fo.keep k₁) hf fun h' tk' x F => h h' tk' x (F.keep k₁))
theorem x1r_ret {v : Expr} {p : Pos} (h1 : EvR W V b sc σ v) : X1R W V b sc σ (.Return (some v) p) := .mk fun A env X l s Q E e fo hf h =>
  wpAny_Return_some (h1.go A env env X l s _ _ e fo hf hf fun h' tk' x fl F => h h' tk' x F.flo)
theorem x1r_asg {x : Str} {p p' : Pos} {v : Expr} (h1 : EvR W V b sc σ v) (hs : ∀ env, swapsWith v (some (.Name x p')) p.line env = pure false) : X1R W V b sc σ (.Assign [.Name x p'] v p) := .mk fun A env X l s Q E e fo hf h =>
  wpAny_Assign_Name (hs := hs env) (h1.go A env env X l s _ _ e fo hf hf fun h' tk' x fl F => h h' tk' x F.flo)
theorem evr_call {x : Str} {p pos : Pos} {a : Expr} {as : List Expr} {ds : List D} {b' : Nat} (hk : sc.names.lookup x = some .globalImplicit) (hd : (x == ("__debug__" : Str)) = false)
    (h1 : Evs W b sc σ (a :: as) ds) (c : CallR W V b' x ds) (hb : b' ≤ b) (hs : ∀ env, starEach (a :: as) env = (false, eval a env) :: starEach as env) :
    EvR W V b sc σ (.Call (.Name x p) (a :: as) [] pos) := .mk fun A env env0 X l s Q E e fo hf hf0 h => by
  obtain ⟨k, k1, k2, k3⟩ := c.isfn
  obtain ⟨f, cc, o, pm, doc, f1, f2, f3, f4⟩ := e.top.fn k k1 k2
  rw [k3] at f1
  refine Call_ (Name_function_global (by rw [e.scope]; exact e.kind) (by show env.scope.names.lookup x = _; rw [e.scope]; exact hk) (loadGlobal_global (mg := W.mg) ?_ f1 ?_) hd)
  · rw [e.glob]; exact e.top.gl.keeps g_sub
  · refine callWith_def f3 (he := hs env) (h1.go A env X s pos _ _ e fun vs h₁ t₁ k₁ r₁ => ⟨k₁ _ _ (g_sub _ _ f2), ?_⟩)
    exact c.go A X (env0 :: l) _ f vs _ _ f1 ((e.keep k₁).cx.less hb) (fo.keep k₁) r₁ fun h' tk' x F => h h' tk' x _ (F.keep' k₁)

theorem call_raise {k : Nat} {ps : List Str} {ds : List D} {n : Str} (hn : nameS (stm k) = n) (hk : k < 92) (hd : (match stm k with | .FunctionDef .. => true | _ => false) = true) (hlen : ds.length = ps.length) (ok : okFn (scopeS (stm k)) ps = true)
    (hbind : ∀ (pm cd doc : Value) (vs : List Value), vs.length = ps.length → bindArgs (docDef (nameS (stm k)) (argsS (stm k)) (bodyS (stm k)) (scopeS (stm k)) pm cd doc) ⟨vs, []⟩ = pure (ps.zip vs))
    (hx : XsR W V b (scopeS (stm k)) (ps.zip ds) (bodyS (stm k))) : CallR W V (b + 1) n ds := .mk ⟨k, hk, hd, hn⟩ fun A X l s a vs Q E ha cx fo rs h => by
  subst hn
  refine call_enter hk hd hlen (okFn_is ok) hbind ha cx rs fun env h₁ tk e fr nL k1 => hx.go (A.deeper env) env _ l _ _ _ e (fo.push k1 nL e fr) fr fun h₂ t₂ x F => ?_
  exact flo_leave F (by show A.frames.map _ = _; rw [fo.fr]; rfl) fr fun h₃ F3 => h h₃ t₂ x (F3.out k1 nL)

/-- raise CasFail('domain', 'factorial below 0') -/
theorem x1r_raise (F0 : Fa W) {cp p1 p2 cpos pos : Pos} {i1 i2 : Nat} (hk : sc.names.lookup (Str.ofString "CasFail") = some .globalImplicit) : X1R W W 3 sc σ (.Raise (some (.Call (.Name (Str.ofString "CasFail") cp) [.Constant (.str (Str.ofString "domain")) i1 p1, .Constant (.str (Str.ofString "factorial below 0")) i2 p2] [] cpos)) none pos) := .mk fun A env X l s Q E e fo hf h => by
  obtain ⟨C, N, mN, oC, f, o, pm, doc, c, h1, h2, ⟨nm, q, bs, sn, sub, col, dd0, p0, p1', p2', p3, p5, rfl⟩, _⟩ := e.top.cf.ex
  rw [arm_exec_Raise]
  refine wpAny_bind (wpAny_standAt ?_)
  refine raise_new ?_
  refine wpAny_bind (wpAny_mono ?_ (fun v s' z => wpAny_bind (wpAny_standAt (wpAny_pure z))) fun _ _ z => z)
  refine Call_ (Name_function_global (by rw [e.scope]; exact e.kind) (by show env.scope.names.lookup _ = _; rw [e.scope]; exact hk) (loadGlobal_global (mg := W.mg) (by rw [e.glob]; exact e.top.gl.keeps g_sub) h1 ?_) (by decide))
  unfold callWith
  refine wpAny_bind (wpAny_holding (Calls.evalArgs_plain ((evs_cons (d := .str (Str.ofString "domain")) (ds := [.str (Str.ofString "factorial below 0")]) ev_str (evs_cons ev_str evs_nil fun _ => rfl) fun _ => rfl).go A env X _ cpos _ _ e fun vs h₁ t₁ k₁ r₁ => ?_)))
  refine wpAny_bind (wpAny_standAt ?_)
  show wpAny _ _ (keeperOf (.ref C) >>= _) _ _ _
  refine wpAny_bind (wpAny_keeperOf_exc (k₁ _ _ (g_sub _ _ h2)) ?_)
  show wpAny _ _ (call (.ref C) vs [] >>= fun r => do holding [r] point; pure r) _ _ _
  refine wpAny_bind (make_fail F0 (e.keep k₁).cx h1 r₁ fun h₂ t₂ x dd t0 m t k₂ xn hx ddn ddx hm hmk => wpAny_bind (wpAny_holding (wpAny_point (wpAny_pure ?_))))
  have k12 : Keep s.heap h₂ := k₁.trans k₂
  have xn0 : s.heap.get? x = none := by
    cases z : s.heap.get? x with
    | none => rfl
    | some o => have := k₁ _ _ z; rw [xn] at this; cases this
  have ddn0 : s.heap.get? dd = none := by
    cases z : s.heap.get? dd with
    | none => rfl
    | some o => have := k₁ _ _ z; rw [ddn] at this; cases this
  refine ⟨x, C, dd, t0, _, _, _, _, _, _, _, _, _, _, _, _, _, rfl, k12 _ _ (g_sub _ _ h2), hx, e.hok.keep fun b o eb => k12 _ _ (g_sub _ _ eb), ?_, fun h' cx vs' c' hx' v1 v2 hcx => ?_⟩
  · rcases e.hok with z | ⟨_, e0, o0, _, z, z2, _⟩
    · rw [z]; exact fun q => by cases q
    · rw [z]; intro q; cases q
      have := g_sub _ _ z2; rw [xn0] at this; cases this
  · have kx : ∀ b o, s.heap.get? b = some o → h'.get? b = some o := fun b o eb => c' b o (fun q => by simp at q; subst q; rw [xn0] at eb; cases eb) (k12 _ _ eb)
    refine h h' t₂ x (.inr ⟨fun b o eb => kx _ _ (g_sub _ _ eb), fun b ⟨o, eb⟩ => ⟨o, kx _ _ eb⟩, Ups.of_keep kx, xn0, ⟨C, dd, cx, vs', _, m, t, h1, hx', v1, v2, hcx, ddn0, ddx, ?_, hmk⟩, ?_⟩)
    · obtain ⟨o, es, ep, ho, r⟩ := hm
      exact ⟨o, es, ep, c' _ _ (by simpa using ddx) ho, r⟩
    · exact funf_to fo.ok fun b o n eb d => ⟨n, o, kx _ _ eb, d⟩
end
section
variable {W V : Wd} {b : Nat} {sc : Scope} {σ : Env}

/-- frames laid before stay -/
theorem FrOK.far {A : Around} {X X' : List Addr} {h h' : Heap} {l : List PySem.Env} (f : FrOK A X h l) (k : Keep h h') (x : ∀ y ∈ X, y ∈ X') : FrOK A X' h' l :=
  ⟨f.fr, funf_to f.ok fun b o n e d => by
    refine ⟨?_, o, k _ _ e, d⟩
    cases z : (G X' h').get? b with
    | none => rfl
    | some o' => rw [g_get e (fun q => g_not z (x _ q))] at n; cases n⟩

inductive CpR (W V : Wd) (b : Nat) (sc : Scope) (τ : Env) (elt : Expr) (x : Str) : List D → Prop
  | take {d v : D} {r : List D} : Ev W b sc ((x, d) :: τ) elt v → CpR W V b sc τ elt x r → CpR W V b sc τ elt x (d :: r)
  | raise {d : D} {r : List D} : EvR W V b sc ((x, d) :: τ) elt → CpR W V b sc τ elt x (d :: r)

/-- the innermost loop of a comprehension, left by a raise -/
theorem comp_inR {elt : Expr} {gens : List Comprehension} {scp : Scope} {cpos : Pos} {x : Str} {px ip : Pos} {depth : Nat} {A : Around} {cenv env0 : PySem.Env} {l : List PySem.Env} {X X0 : List Addr} {h0 : Heap} {I Da : Addr} {P : Nat → Heap → Prop} {ds : List D} {τ : Env} {s : Shared} {R : Result → Shared → Prop}
    (ht : ∀ it ac env, compTurn (.ListComp elt gens scp cpos) depth it ac env = (do
      standAt ip
      match ← pyNext it with
      | none => pure (.done .next)
      | some v =>
        letOwnedTupleGo (.Name x px) it v
        assign (.Name x px) env v
        let mut ok := true
        for c in ([] : List Expr) do
          if ok then ok ← isTrue c env (eval c env)
        if ok then
          (do let _ ← call (.builtin "list.append") [ac, ← eval elt env])
        again (.compLoop (.ListComp elt gens scp cpos) depth it ac env)))
    (hl : sc.names.lookup x = some .local) (cp : CpR W V b sc τ elt x ds) (io : IterOK W A X0 h0 I ds P)
    (hY : ∀ y ∈ [cenv.locals, Da], y ∈ X0 ∨ (h0.get? y = none ∧ y ≠ I)) (hX : ∀ y ∈ X0, y ∈ X) (hI : I ∈ X) (hD : Da ∈ X) (hDC : Da ≠ cenv.locals) (hDI : Da ≠ I) (hIC : I ≠ cenv.locals) (hn : ds.length ≤ 1000)
    (e0 : EnvOK W b sc A cenv τ X s.heap) (p0 : P 0 s.heap) (gk : Keep (G X0 h0) (G X s.heap)) (hpl : s.heap.PlainList Da #[])
    (fo : FrOK A X0 h0 (env0 :: l)) (hf : cenv.frame = some env0.locals) (hf0 : env0.frame = some env0.locals) (k0 : Keep h0 s.heap) (nC : h0.get? cenv.locals = none) (nD : h0.get? Da = none) (nI : h0.get? I = none)
    (hR : ∀ h₃ h' tk' x fl, (∃ m, h₃.Ns cenv.locals m) → Keep h0 h₃ → Keep (G X0 h0) (G X h₃) → Fly V (env0 :: l) X [] h₃ h' x fl → R (.error (.ref x)) { s with heap := h', toks := tk' }) :
    codeAny (model W.prog W.w) A (.compLoop (.ListComp elt gens scp cpos) depth (.ref I) (.ref Da) cenv) R s := by
  refine codeAny_loop rfl (fun k s' => ∃ i τ' h' tk' items', s' = { s with heap := h', toks := tk' } ∧ k + i = ds.length ∧ P i h' ∧ CpR W V b sc τ elt x (ds.drop i) ∧ items'.size ≤ i ∧
    EnvOK W b sc A cenv τ' X h' ∧ (∀ y d, y ≠ x → τ.lookup y = some d → τ'.lookup y = some d) ∧ h'.PlainList Da items' ∧ Chg [cenv.locals, Da, I] s.heap h') (fun k s' hI' => ?_) ds.length
    ⟨0, τ, s.heap, s.toks, #[], rfl, rfl, p0, cp, Nat.le_refl _, e0, fun _ _ _ q => q, hpl, fun _ _ _ e => e⟩
  obtain ⟨i, τ', h', tk', items', rfl, hk, hp, hcp, hlen, e', hτ, hpl', c'⟩ := hI'
  show wpAny _ A ((compTurn (.ListComp elt gens scp cpos) depth (.ref I) (.ref Da) cenv).onRaise (fun x => do noteFrame x cenv; theTreesLotGoes x)) _ _ _
  refine wpAny_noted ?_
  rw [ht]
  have cXof : ∀ {h1 h2 : Heap}, Chg [cenv.locals, Da, I] h1 h2 → Chg X h1 h2 := fun c => c.mono fun y q => by
    simp at q; rcases q with rfl | rfl | rfl
    · exact e0.inX
    · exact hD
    · exact hI
  have gk' : Keep (G X0 h0) (G X h') := gk.trans (g_chg (cXof c'))
  refine wpAny_bind (wpAny_standAt (wpAny_bind ?_))
  rcases Nat.lt_or_ge i ds.length with hlt | hge
  · rw [List.drop_eq_getElem_cons hlt] at hcp
    refine io.next i ds[i] (List.getElem?_eq_getElem hlt) _ _ _ hp fun v h₁ t₁ hp₁ c₁ r₁ => ?_
    have cI : ∀ {h1 h2 : Heap}, Chg [I] h1 h2 → Chg [cenv.locals, Da, I] h1 h2 := fun c => c.mono fun y q => by simp at q; simp [q]
    have cC : ∀ {h1 h2 : Heap}, Chg [cenv.locals] h1 h2 → Chg [cenv.locals, Da, I] h1 h2 := fun c => c.mono fun y q => by simp at q; simp [q]
    have cD : ∀ {h1 h2 : Heap}, Chg [Da] h1 h2 → Chg [cenv.locals, Da, I] h1 h2 := fun c => c.mono fun y q => by simp at q; simp [q]
    have e1 : EnvOK W b sc A cenv τ' X h₁ := e'.turn c₁ hI hIC (io.has _ _ hp₁)
    have pl1 : h₁.PlainList Da items' := hpl'.at fun o eo => c₁ _ _ (by simpa using hDI) eo
    refine wpAny_bind (wpAny_of_eq (a := ()) rfl ?_)
    refine wpAny_bind (wpAny_assign_Name (store_ok e1 (r₁.keep (gk'.trans (g_chg (cXof (cI c₁))))) hl fun h₂ t₂ c₂ e₂ => ?_))
    have e2 : EnvOK W b sc A cenv ((x, ds[i]) :: τ) X h₂ := e₂.sub fun y d q => by
      rw [List.lookup_cons] at q ⊢
      cases hb : y == x with
      | true => rw [hb] at q; exact q
      | false => rw [hb] at q; exact hτ y d (fun z => by rw [z] at hb; simp at hb) q
    have τ2 : ∀ y d, y ≠ x → τ.lookup y = some d → ((x, ds[i]) :: τ).lookup y = some d := fun y d n q => by
      rw [List.lookup_cons]
      have : (y == x) = false := beq_eq_false_iff_ne.mpr n
      rw [this]; exact q
    have pl2 : h₂.PlainList Da items' := pl1.at fun o eo => c₂ _ _ (by simpa using hDC) eo
    have hp2 : P (i + 1) h₂ := io.frame _ _ _ [cenv.locals] c₂ (fun y hy => hY y (by simp at hy; simp [hy])) hp₁
    have c02 := (c'.trans (cI c₁)).trans (cC c₂)
    refine wpAny_bind (if1_ok (W := W) (b := b) (sc := sc) .none e2 fun h₃ t₃ k₃ => ?_)
    cases hcp with
    | @take _ dv _ hev hr =>
      refine wpAny_bind (wpAny_bind (hev.go A cenv X _ _ _ (e2.keep k₃) fun v₄ h₄ t₄ k₄ r₄ => wpAny_bind (wpAny_list_append_plain (hsz := ?_) (pl2.at fun o eo => k₄ _ _ (k₃ _ _ eo)) fun h₅ pl₅ s₅ => ?_)))
      · have c5 : Chg [Da] h₄ h₅ := fun b o hb eb => s₅.extBut b o (by simpa using hb) eb
        have e5 : EnvOK W b sc A cenv ((x, ds[i]) :: τ) X h₅ := ((e2.keep k₃).keep k₄).turn c5 hD hDC (let ⟨n, q⟩ := pl₅; ⟨_, q⟩)
        refine wpAny_pure (wpAny_pure ⟨rfl, k - 1, by omega, i + 1, _, h₅, t₄, items'.push v₄, rfl, by omega, ?_, hr, by simp; omega, e5, τ2, pl₅, ?_⟩)
        · exact io.frame _ _ _ [Da] c5 (fun y hy => hY y (by simp at hy; simp [hy])) (io.frame _ _ _ [] (k₃.trans k₄).chg (fun y hy => (nomatch hy)) hp2)
        · exact ((c02.trans k₃.chg).trans k₄.chg).trans (cD c5)
      · rw [sizeLine_is]; omega
    | raise hev =>
      have kk : Keep h0 h₃ := fun b o eb => k₃ _ _ (c02 b o (fun q => by
        simp at q
        rcases q with rfl | rfl | rfl
        · rw [nC] at eb; cases eb
        · rw [nD] at eb; cases eb
        · rw [nI] at eb; cases eb) (k0 _ _ eb))
      refine wpAny_bind (wpAny_bind (hev.go A cenv env0 X l _ _ _ (e2.keep k₃) (fo.far kk hX) hf hf0 fun h₄ t₄ y fl F => ?_))
      show wpAny _ _ (noteFrame (.ref y) cenv) _ _ _
      rw [noteFrame_same (b := env0) (hf.trans hf0.symm)]
      refine noted_step F fo.fr hf0 fun h₅ fl' F' _ => hR h₃ h₅ t₄ y fl' ?_ kk (gk.trans (g_chg (cXof (c02.trans k₃.chg)))) F'
      obtain ⟨m, n, _⟩ := (e2.keep k₃).loc
      exact ⟨m, n⟩
  · exfalso
    have hil : i = ds.length := by omega
    subst hil
    rw [List.drop_length] at hcp
    cases hcp

/-- a flight survives that a fresh frame's names go -/
theorem Fly.same {A : Around} {X X' : List Addr} {h0 h₃ h' h'' : Heap} {x C : Addr} {fl : Value} {l : List PySem.Env} (F : Fly W l X' [] h₃ h' x fl) (fo : FrOK A X h0 l) (k : Keep h0 h₃) (g : Keep (G X h0) (G X' h₃)) (nC : h0.get? C = none) {m : Str → Option Value} (hC : h₃.Ns C m) (sb : Heap.SameBut C h' h'') : Fly W l X [] h0 h'' x fl := by
  obtain ⟨hkeep, hext, hups, ⟨hnew, K, dd, T, cx, vs, sl, oT, ts, m', t, c1, hx, h1, h2, hcx, ddn, ddx, hm, hmk, hTn, hTx, hT, hdT, h3⟩, hfun⟩ := F
  obtain ⟨oC, es, ep, hoC, hdC, _⟩ := hC
  have xC : x ≠ C := fun q => by rw [q, hoC] at hnew; cases hnew
  have dC : dd ≠ C := fun q => by rw [q, hoC] at ddn; cases ddn
  have TC : T ≠ C := fun q => by rw [q, hoC] at hTn; cases hTn
  have nn : ∀ {y}, h₃.get? y = none → h0.get? y = none := fun {y} q => by
    cases z : h0.get? y with
    | none => rfl
    | some o => have := k _ _ z; rw [q] at this; cases this
  have n0 : ∀ {b o}, h0.get? b = some o → b ≠ C := fun {b o} e q => by rw [q, nC] at e; cases e
  have u0 : ∀ b o, h0.get? b = some o → NoF o → ∃ sl, h''.get? b = some { o with slots := sl } := fun b o e n => by
    obtain ⟨sl', e'⟩ := hups b o (by simp) (k _ _ e) n
    exact ⟨sl', (sb.2 b (n0 e)).trans e'⟩
  refine ⟨fun b o e => (sb.2 b (n0 (g_sub _ _ e))).trans (hkeep _ _ (g _ _ e)), fun b ⟨o, e⟩ => ?_, fun b o _ e n => u0 b o e n, ⟨nn hnew, K, dd, T, cx, vs, sl, oT, ts, m', t, c1, (sb.2 x xC).trans hx, h1, h2, hcx, nn ddn, ddx, ?_, hmk, nn hTn, hTx, (sb.2 T TC).trans hT, hdT, h3⟩, funf_to fo.ok fun b o n e d => ?_⟩
  · obtain ⟨o', e'⟩ := hext b ⟨o, k _ _ e⟩
    exact ⟨o', (sb.2 b (n0 e)).trans e'⟩
  · obtain ⟨o, es, ep, ho, r⟩ := hm
    exact ⟨o, es, ep, (sb.2 dd dC).trans ho, r⟩
  · obtain ⟨sl', e'⟩ := u0 b o e d
    exact ⟨n, _, e', d⟩

theorem evr_lc {elt it : Expr} {x : Str} {px : Pos} {scope : Scope} {pos : Pos} {c : D} {ds : List D} {τ : Env} (h1 : Ev W b sc σ it c) (hi : Itr W b c ds) (cap : Cap sc scope σ τ) (hsc : okSc scope x = true) (hn : ds.length ≤ 1000)
    (hs : ∀ (env : PySem.Env) (v : Value), foldedSetIterable it env v = pure v) (cp : CpR W V b (relab scope sc) τ elt x ds) : EvR W V b sc σ (.ListComp elt [⟨.Name x px, it, [], 0⟩] scope pos) := .mk fun A env env0 X l s Q E e fo hf hf0 h => by
  rw [eval_ListComp]
  refine wpAny_comprehension_free (use := none) rfl (hs env) (cap_clo cap e) (okSc_kind hsc) (okSc_names hsc) (h1.go A env X s _ _ e fun u h₁ t₁ k₁ r₁ => hi.go A X _ u _ _ (e.keep k₁).cx r₁ fun I P h₂ t₂ n0 k₂ p₂ io => ?_)
  refine comp_lay (s0 := { s with heap := h₁, toks := t₁ }) (s2 := { s with heap := h₂, toks := t₂ }) (RR := fun acc C => compPost (model W.prog W.w) A E none Q acc C) hsc cap (e.keep k₁) n0 k₂ p₂ io fun h₃ Da cenv t₃ nD nC hDC hDI hIC hfr k₃ e₃ p₃ gk pl => ?_
  have fo1 := fo.keep k₁
  have loop := comp_inR (A := A) (W := W) (b := b) (s := { s with heap := h₃, toks := t₃ }) (R := fun r s' => compPost (model W.prog W.w) A E none Q (.ref Da) cenv.locals r s') (depth := 0) (cenv := cenv) (Da := Da) (gens := [⟨.Name x px, it, [], 0⟩]) (scp := scope) (cpos := pos) (ip := it.pos) (px := px) (turn1 (elt := elt) (it := it) (x := x) (px := px) (ifs := []) (scope := scope) (pos := pos)) (relab_x (okSc_x hsc)) cp io
    (fun y hy => by
      simp at hy
      rcases hy with rfl | rfl
      · exact .inr ⟨nC, Ne.symm hIC⟩
      · exact .inr ⟨nD, hDI⟩) (fun y hy => by simp [hy]) (by simp) (by simp) hDC hDI hIC hn e₃ p₃ gk pl fo1 (hfr.trans hf) hf0 (k₂.trans k₃) nC nD n0
    (fun h₄ h₅ t₅ y fl ⟨m, hm⟩ kk gg F => ?_)
  · exact codeAny_compStart_list loop (io.self 0 _ _ _ p₃ loop)
  · refine ⟨m, ns_ups F.ups (by simp) hm, fun h₆ sb cenv' _ => ?_⟩
    exact passOn_step (F.same fo1 kk gg nC hm sb) fun h₇ fl' F' => h h₇ t₅ y fl' (F'.keep' k₁)

theorem evr_tup2 {x y : Expr} {k : Nat} {p : Pos} {d : D} (h1 : Ev W b sc σ x d) (h2 : EvR W V b sc σ y) (hs : ∀ env, starEach [x, y] env = (false, eval x env) :: starEach [y] env) (hs2 : ∀ env, starEach [y] env = (false, eval y env) :: starEach [] env) : EvR W V b sc σ (.Tuple [x, y] k p) := .mk fun A env env0 X l s Q E e fo hf hf0 h =>
  wpAny_Tuple (wpAny_items_cons (he := hs env) (h1.go A env X s _ _ e fun u h₁ t₁ k₁ r₁ => wpAny_items_cons (he := hs2 env) (h2.go A env env0 X l _ _ _ (e.keep k₁) (fo.keep k₁) hf hf0 fun h' tk' x fl F => h h' tk' x fl (F.keep' k₁))))

theorem x1r_swap2 {x y : Str} {px py pt pv p : Pos} {k kv : Nat} {es : List Expr} (h1 : EvR W V b sc σ (.Tuple es kv pv))
    (hw : ∀ env : PySem.Env, env.scope = sc → swappedStores [.Tuple [.Name x px, .Name y py] k pt] (.Tuple es kv pv) env = pure (some [x, y])) :
    X1R W V b sc σ (.Assign [.Tuple [.Name x px, .Name y py] k pt] (.Tuple es kv pv) p) := .mk fun A env X l s Q E e fo hf h =>
  Assign_Tuple_swapped (names := [x, y]) (hw := hw env e.scope) (h1.go A env env X l s _ _ e fo hf hf fun h' tk' x fl F => h h' tk' x F.flo)
end
abbrev Wd.set (W : Wd) (c : Bool) : Wd := { W with hn := c }
mutual
theorem rv_hn {W : Wd} {g : Heap} (c : Bool) : ∀ {v : Value} {d : D}, RV W g v d → RV (W.set c) g v d
  | _, _, .none => .none
  | _, _, .bool b => .bool b
  | _, _, .int i t => .int i t
  | _, _, .str x t => .str x t
  | _, _, .tup x r => .tup x (rvs_hn c r)
  | _, _, .lst x r => .lst x (rvs_hn c r)
  | _, _, .dct s x r => .dct s x (rv_hn c r)
  | _, _, .emp s x => .emp s x
  | _, _, .ems s x y => .ems s x y
  | _, _, .rng x => .rng x
  | _, _, .adr a => .adr a
theorem rvs_hn {W : Wd} {g : Heap} (c : Bool) : ∀ {vs : List Value} {ds : List D}, RVs W g vs ds → RVs (W.set c) g vs ds
  | _, _, .nil => .nil
  | _, _, .cons x r => .cons (rv_hn c x) (rvs_hn c r)
end
theorem top_hn {W : Wd} {g : Heap} (c : Bool) (t : TopOK W g) : TopOK (W.set c) g := ⟨t.gl, t.bt, t.lim, t.fn, t.bi, ⟨t.cf.ex⟩, t.fr⟩
theorem con_hn {W : Wd} {x : Str} {d : D} (c : Bool) (h : Con W x d) : Con (W.set c) x d := fun g t => by
  have t' : TopOK W g := top_hn (W := W.set c) W.hn t
  obtain ⟨v, h1, h2⟩ := h g t'
  exact ⟨v, h1, rv_hn c h2⟩
theorem fa_hn {W : Wd} (c : Bool) (F : Fa W) : Fa (W.set c) := ⟨F.bi, con_hn c F.one, con_hn c F.zero, con_hn c F.tone, con_hn c F.bits, con_hn c F.narrow, con_hn c F.fact, con_hn c F.levels, con_hn c F.terms, con_hn c F.raw⟩
theorem back_hn {W : Wd} {g : Heap} {v : Value} {d : D} {c : Bool} (r : RV (W.set c) g v d) : RV W g v d := rv_hn (W := W.set c) W.hn r

/-- told from outside, after a catch -/
structure Up (Y X : List Addr) (h h' : Heap) : Prop where
  keep : Keep (G X h) h'
  ext : ∀ b, b ∉ Y → (∃ o, h.get? b = some o) → ∃ o, h'.get? b = some o
  ups : Ups Y h h'

theorem Up.g {Y X : List Addr} {h h' : Heap} (u : Up Y X h h') : Keep (G X h) (G X h') := fun b o e => g_get (u.keep b o e) (g_not e)
theorem Up.of_keep {X : List Addr} {h h' : Heap} (k : Keep h h') : Up [] X h h' := ⟨fun b o e => k _ _ (g_sub _ _ e), fun b _ ⟨o, e⟩ => ⟨o, k _ _ e⟩, Ups.of_keep k⟩
theorem Up.trans {Y X : List Addr} {a b c : Heap} (x : Up [] X a b) (y : Up Y X b c) : Up Y X a c :=
  ⟨fun p o e => y.keep _ _ (x.g _ _ e), fun p n e => y.ext _ n (x.ext _ (by simp) e), (x.ups.mono (by simp)).trans y.ups⟩
theorem Up.chg {X : List Addr} {a b c : Heap} {L : Addr} (x : Up [] X a b) (y : Chg [L] b c) (i : L ∈ X) : Up [L] X a c :=
  ⟨fun p o e => y _ _ (fun q => by simp at q; subst q; exact g_not e i) (x.keep _ _ e), fun p n e => let ⟨o, q⟩ := x.ext _ (by simp) e; ⟨o, y _ _ n q⟩, (x.ups.mono (by simp)).trans (Ups.of_chg y)⟩

section
variable {W V : Wd} {b : Nat} {sc : Scope} {σ : Env}
theorem Fly.up {l : List PySem.Env} {X : List Addr} {h h' : Heap} {x : Addr} {fl : Value} (F : Fly V l X [] h h' x fl) : Up [] X h h' := ⟨F.keep, fun b _ e => F.ext b e, F.ups⟩
theorem EnvOK.up {A : Around} {env : PySem.Env} {X : List Addr} {h h' : Heap} (e : EnvOK W b sc A env σ X h) (u : Up [] X h h') : EnvOK W b sc A env σ X h' := by
  obtain ⟨m, n, l⟩ := e.loc
  exact ⟨e.scope, e.kind, e.glob, e.bui, e.room, e.inX, fun x hx => u.ext x (by simp) (e.has x hx), e.top.keep u.g, e.hok.keep u.g, m, ns_ups u.ups (by simp) n, fun x d q => (l x d q).keep u.g⟩
theorem FrOK.up {A : Around} {X : List Addr} {h h' : Heap} {l : List PySem.Env} (f : FrOK A X h l) (u : Up [] X h h') : FrOK A X h' l :=
  ⟨f.fr, funf_to f.ok fun b o n e d => by
    obtain ⟨sl, e'⟩ := u.ups b o (by simp) e d
    refine ⟨?_, _, e', d⟩
    cases z : (G X h').get? b with
    | none => rfl
    | some o' => rw [g_get e (g_not z)] at n; cases n⟩

/-- a statement that returns, perhaps after a catch -/
structure X1U (W : Wd) (b : Nat) (sc : Scope) (σ : Env) (st : Stmt) (d : D) : Prop where
  go : ∀ (A : Around) (env : PySem.Env) (X : List Addr) (l : List PySem.Env) (s : Shared) (Q : Flow → Shared → Prop) (E : Value → Shared → Prop), EnvOK W b sc A env σ X s.heap → FrOK A X s.heap (env :: l) → env.frame = some env.locals →
    (∀ v h' tk', Up [env.locals] X s.heap h' → RV W (G X h') v d → Q (.ret v) { s with heap := h', toks := tk' }) → wpAny (model W.prog W.w) A (exec st env) Q E s
structure EvU (W : Wd) (b : Nat) (sc : Scope) (σ : Env) (e : Expr) (d : D) : Prop where
  go : ∀ (A : Around) (env : PySem.Env) (X : List Addr) (l : List PySem.Env) (s : Shared) (Q E : Value → Shared → Prop), EnvOK W b sc A env σ X s.heap → FrOK A X s.heap (env :: l) → env.frame = some env.locals →
    (∀ v h' tk', Up [] X s.heap h' → RV W (G X h') v d → Q v { s with heap := h', toks := tk' }) → wpAny (model W.prog W.w) A (eval e env) Q E s
structure CallU (W : Wd) (b : Nat) (f : Str) (ds : List D) (d : D) : Prop where
  isfn : IsFn f
  go : ∀ (A : Around) (X : List Addr) (l : List PySem.Env) (s : Shared) (a : Addr) (vs : List Value) (Q E : Value → Shared → Prop), W.mg f = some (.ref a) → Cx W b A X s.heap → FrOK A X s.heap l → RVs W (G X s.heap) vs ds →
    (∀ v h' tk', Up [] X s.heap h' → RV W (G X h') v d → Q v { s with heap := h', toks := tk' }) → wpAny (model W.prog W.w) A (call (.ref a) vs) Q E s

/-- in the handler -/
theorem EnvOK.mark {A : Around} {env : PySem.Env} {X : List Addr} {h h' : Heap} {l : List PySem.Env} {x : Addr} {fl : Value} (hW : W.hn = true) (e : EnvOK W b sc A env σ X h) (F : Fly W l X [] h h' x fl) : EnvOK (W.set false) b sc (A.mark (some (.ref x))) env σ X h' := by
  have e' := e.up F.up
  obtain ⟨m, n, l⟩ := e'.loc
  obtain ⟨C, dd, T, cx, vs, sl, oT, ts, m', t, c1, hx, h1, h2, hcx, _⟩ := F.th.obj
  have nx : x ∉ X := e.fresh F.th.new
  refine ⟨e'.scope, e'.kind, e'.glob, e'.bui, e'.room, e'.inX, e'.has, top_hn false e'.top, .inr ⟨rfl, x, _, vs, rfl, g_get hx nx, rfl, ?_⟩, m, n, fun y d q => ?_⟩
  · rw [h2, hcx hW]
  · obtain ⟨v, r, z⟩ := l y d q
    exact ⟨v, rv_hn false r, z⟩
theorem FrOK.mark {A : Around} {X : List Addr} {h : Heap} {l : List PySem.Env} {x : Value} (f : FrOK A X h l) : FrOK (A.mark (some x)) X h l := ⟨f.fr, f.ok⟩

/-- the way into a handler -/
theorem catch_in (hW : W.hn = true) {p1 cp hp pos : Pos} {e1 : Expr} {st2 : Stmt} (hk : sc.names.lookup (Str.ofString "CasFail") = some .globalImplicit) (he : EvR W W b sc σ e1)
    {A : Around} {env : PySem.Env} {X : List Addr} {l : List PySem.Env} {s : Shared} {Q : Flow → Shared → Prop} {E : Value → Shared → Prop} (e : EnvOK W b sc A env σ X s.heap) (fo : FrOK A X s.heap (env :: l)) (hf : env.frame = some env.locals)
    (go : ∀ h₃ t₃ x fl, Fly W (env :: l) X [] s.heap h₃ x fl → wpAny (model W.prog W.w) (A.mark (some (.ref x))) (exec st2 env)
      (fun f s₁ => (match f with | .next => wpAny (model W.prog W.w) (A.mark (some (.ref x))) (execs [] env) Q (fun _ _ => False) s₁ | f => Q f s₁))
      (notedBy (model W.prog W.w) (A.mark (some (.ref x))) env fun y s₂ => cameBackBy (model W.prog W.w) A env E y s₂) { s with heap := h₃, toks := t₃ }) :
    wpAny (model W.prog W.w) A (exec (.Try [.Return (some e1) p1] [.ExceptHandler (some (.Name (Str.ofString "CasFail") cp)) none [st2] hp] [] [] pos) env) Q E s := by
  refine wpAny_Try_except (wpAny_execs_cons (wpAny_Return_some (he.go A env env X l s _ _ e fo hf hf fun h₀ t₀ x fl F => ?_)))
  refine noted_step F fo.fr hf fun h₁ fl₁ F₁ _ => ?_
  refine flight_step (s := { s with heap := h₁, toks := t₀ }) (fr := none) F₁ fun h₂ F₂ _ => ?_
  refine wpAny_handleBy_cons ?_ (by intro q; cases q)
  have e₂ := e.up F₂.up
  obtain ⟨C, dd, T, cx, vs, sl, oT, ts, m', t, c1, hx, _⟩ := F₂.th.obj
  obtain ⟨C', N, mN, oC, f, o, pm, doc, c, k1, k2, ⟨nm, q, bs, sn, sub, col, dd0, p0, p1', p2', p3, p5, rfl⟩, _⟩ := e₂.top.cf.ex
  rw [c1] at k1; cases k1
  refine codeAny_handlers_test (Name_function_global (by rw [e.scope]; exact e.kind) (by show env.scope.names.lookup _ = _; rw [e.scope]; exact hk) (loadGlobal_global (mg := W.mg) (by rw [e.glob]; exact e₂.top.gl.keeps g_sub) c1 ?_) (by decide))
  refine wpAny_excMatches_sub_self (g_sub _ _ k2) hx rfl rfl ?_
  refine codeAny_handlers_suite (flight_step (fr := none) F₂ fun h₃ F₃ _ => ?_)
  refine wpAny_execs_cons (wpAny_mono (go h₃ t₀ x _ F₃) (fun f s' z => ?_) fun _ _ z => z)
  cases f <;> try exact z

theorem x1u_try (hW : W.hn = true) {p1 cp hp pos : Pos} {e1 : Expr} {st2 : Stmt} {d : D} (hk : sc.names.lookup (Str.ofString "CasFail") = some .globalImplicit) (he : EvR W W b sc σ e1) (hb : X1 (W.set false) b sc σ st2 (.ret d)) :
    X1U W b sc σ (.Try [.Return (some e1) p1] [.ExceptHandler (some (.Name (Str.ofString "CasFail") cp)) none [st2] hp] [] [] pos) d := .mk fun A env X l s Q E e fo hf h => by
  refine catch_in hW hk he e fo hf fun h₃ t₃ x fl F => ?_
  refine hb.go _ env X _ _ _ (e.mark hW F) fun f h₄ t₄ c₄ o₄ => ?_
  obtain ⟨v, rfl, r⟩ := o₄
  exact h v h₄ t₄ (F.up.chg c₄ e.inX) (back_hn r)

theorem x1r_try (hW : W.hn = true) {p1 p2 cp hp pos : Pos} {e1 e2 : Expr} (hk : sc.names.lookup (Str.ofString "CasFail") = some .globalImplicit) (he : EvR W W b sc σ e1) (hb : EvR (W.set false) (W.set false) b sc σ e2) :
    X1R W (W.set false) b sc σ (.Try [.Return (some e1) p1] [.ExceptHandler (some (.Name (Str.ofString "CasFail") cp)) none [.Return (some e2) p2] hp] [] [] pos) := .mk fun A env X l s Q E e fo hf h => by
  refine catch_in hW hk he e fo hf fun h₃ t₃ x fl F => ?_
  have fo3 := (fo.up F.up).mark (x := .ref x)
  refine wpAny_Return_some (hb.go _ env env X l _ _ _ (e.mark hW F) fo3 hf hf fun h₄ t₄ y fl₄ F₄ => ?_)
  refine noted_step F₄ fo3.fr hf fun h₅ fl₅ F₅ _ => ?_
  obtain ⟨C, dd, T, cx, vs, sl, oT, ts, m', t, c1, hx, v1, _⟩ := F₅.th.obj
  unfold cameBackBy
  refine wpAny_bind (wpAny_field hx rfl v1 ?_)
  rw [if_neg (show ¬ ((Value.ref T == Value.none) = true) from by simp)]
  refine flight_step (s := { s with heap := h₅, toks := t₄ }) F₅ fun h₆ F₆ _ => h h₆ t₄ y (Fly.flo (F₆.pre F.up.g (fun b e => F.ext b e) (F.ups.trans F₆.ups) fun _ _ z => z))

theorem x1u_of {st : Stmt} {d : D} (h1 : X1 W b sc σ st (.ret d)) : X1U W b sc σ st d := .mk fun A env X l s Q E e fo hf h =>
  h1.go A env X s _ _ e fun f h₁ t₁ c₁ o₁ => by
    obtain ⟨v, rfl, r⟩ := o₁
    exact h v h₁ t₁ ((Up.of_keep Keep.rfl').chg c₁ e.inX) r
theorem x1_try {st : Stmt} {hs : ExceptHandler} {pos : Pos} {d : D} (h1 : X1 W b sc σ st (.ret d)) : X1 W b sc σ (.Try [st] [hs] [] [] pos) (.ret d) := .mk fun A env X s Q E e h =>
  wpAny_Try_except (wpAny_execs_cons (h1.go A env X s _ _ e fun f h₁ t₁ c₁ o₁ => by
    obtain ⟨v, rfl, r⟩ := o₁
    exact h _ h₁ t₁ c₁ ⟨v, rfl, r⟩))

theorem call_up {k : Nat} {ps : List Str} {ds : List D} {n : Str} {d : D} {st : Stmt} (hn : nameS (stm k) = n) (hk : k < 92) (hd : (match stm k with | .FunctionDef .. => true | _ => false) = true) (hlen : ds.length = ps.length) (ok : okFn (scopeS (stm k)) ps = true)
    (hbind : ∀ (pm cd doc : Value) (vs : List Value), vs.length = ps.length → bindArgs (docDef (nameS (stm k)) (argsS (stm k)) (bodyS (stm k)) (scopeS (stm k)) pm cd doc) ⟨vs, []⟩ = pure (ps.zip vs))
    (hbody : bodyS (stm k) = [st]) (hx : X1U W b (scopeS (stm k)) (ps.zip ds) st d) : CallU W (b + 1) n ds d := .mk ⟨k, hk, hd, hn⟩ fun A X l s a vs Q E ha cx fo rs h => by
  subst hn
  refine call_enter hk hd hlen (okFn_is ok) hbind ha cx rs fun env h₁ tk e fr nL k1 => ?_
  rw [hbody]
  refine wpAny_execs_cons (hx.go (A.deeper env) env _ l _ _ _ e (fo.push k1 nL e fr) fr fun v h₂ t₂ u r => ?_)
  have gg : Keep (G X s.heap) (G (env.locals :: X) h₁) := g_more k1.chg nL
  refine h v h₂ t₂ ⟨fun b o e => u.keep _ _ (gg _ _ e), fun b _ ⟨o, e⟩ => u.ext b (fun q => by simp at q; subst q; rw [nL] at e; cases e) ⟨o, k1 _ _ e⟩, fun b o _ e n => u.ups b o (fun q => by simp at q; subst q; rw [nL] at e; cases e) (k1 _ _ e) n⟩ (r.keep g_tail)

theorem callU_of {n : Str} {ds : List D} {d : D} (c : CallOK W b n ds d) : CallU W b n ds d := .mk c.isfn fun A X l s a vs Q E ha cx fo rs h => c.go A X s a vs Q E ha cx rs fun v h' tk' k r => h v h' tk' (Up.of_keep k) r

theorem evu_call {x : Str} {p pos : Pos} {a : Expr} {as : List Expr} {ds : List D} {b' : Nat} {d : D} (hk : sc.names.lookup x = some .globalImplicit) (hd : (x == ("__debug__" : Str)) = false)
    (h1 : Evs W b sc σ (a :: as) ds) (c : CallU W b' x ds d) (hb : b' ≤ b) (hs : ∀ env, starEach (a :: as) env = (false, eval a env) :: starEach as env) :
    EvU W b sc σ (.Call (.Name x p) (a :: as) [] pos) d := .mk fun A env X l s Q E e fo hf h => by
  obtain ⟨k, k1, k2, k3⟩ := c.isfn
  obtain ⟨f, cc, o, pm, doc, f1, f2, f3, f4⟩ := e.top.fn k k1 k2
  rw [k3] at f1
  refine Call_ (Name_function_global (by rw [e.scope]; exact e.kind) (by show env.scope.names.lookup x = _; rw [e.scope]; exact hk) (loadGlobal_global (mg := W.mg) ?_ f1 ?_) hd)
  · rw [e.glob]; exact e.top.gl.keeps g_sub
  · refine callWith_def f3 (he := hs env) (h1.go A env X s pos _ _ e fun vs h₁ t₁ k₁ r₁ => ⟨k₁ _ _ (g_sub _ _ f2), ?_⟩)
    exact c.go A X (env :: l) _ f vs _ _ f1 ((e.keep k₁).cx.less hb) (fo.keep k₁) r₁ fun v h' tk' u r => h v h' tk' ((Up.of_keep k₁).trans u) r

/-- f(a), the argument told through a catch -/
theorem evu_arg {x : Str} {p pos : Pos} {a : Expr} {d0 d : D} {b' : Nat} (hk : sc.names.lookup x = some .globalImplicit) (hd : (x == ("__debug__" : Str)) = false)
    (h1 : EvU W b sc σ a d0) (c : CallOK W b' x [d0] d) (hb : b' ≤ b) (hs : ∀ env, starEach [a] env = (false, eval a env) :: starEach [] env) :
    EvU W b sc σ (.Call (.Name x p) [a] [] pos) d := .mk fun A env X l s Q E e fo hf h => by
  obtain ⟨k, k1, k2, k3⟩ := c.isfn
  obtain ⟨f, cc, o, pm, doc, f1, f2, f3, f4⟩ := e.top.fn k k1 k2
  rw [k3] at f1
  refine Call_ (Name_function_global (by rw [e.scope]; exact e.kind) (by show env.scope.names.lookup x = _; rw [e.scope]; exact hk) (loadGlobal_global (mg := W.mg) ?_ f1 ?_) hd)
  · rw [e.glob]; exact e.top.gl.keeps g_sub
  · refine callWith_def f3 (he := hs env) (wpAny_items_cons (he := hs env) (h1.go A env X l s _ _ e fo hf fun v h₁ t₁ u₁ r₁ => wpAny_items_nil ⟨u₁.keep _ _ f2, ?_⟩))
    exact c.go A X _ f [v] _ _ f1 ((e.up u₁).cx.less hb) (.cons r₁ .nil) fun v' h' tk' k' r => h v' h' tk' (u₁.trans (Up.of_keep k')) r
/-- f(a), the argument raising -/
theorem evr_arg {x : Str} {p pos : Pos} {a : Expr} (hk : sc.names.lookup x = some .globalImplicit) (hd : (x == ("__debug__" : Str)) = false) (hfn : IsFn x)
    (h1 : EvR W V b sc σ a) (hs : ∀ env, starEach [a] env = (false, eval a env) :: starEach [] env) :
    EvR W V b sc σ (.Call (.Name x p) [a] [] pos) := .mk fun A env env0 X l s Q E e fo hf hf0 h => by
  obtain ⟨k, k1, k2, k3⟩ := hfn
  obtain ⟨f, cc, o, pm, doc, f1, f2, f3, f4⟩ := e.top.fn k k1 k2
  rw [k3] at f1
  refine Call_ (Name_function_global (by rw [e.scope]; exact e.kind) (by show env.scope.names.lookup x = _; rw [e.scope]; exact hk) (loadGlobal_global (mg := W.mg) ?_ f1 ?_) hd)
  · rw [e.glob]; exact e.top.gl.keeps g_sub
  · exact callWith_def f3 (he := hs env) (wpAny_items_cons (he := hs env) (h1.go A env env0 X l s _ _ e fo hf hf0 h))
end
section
variable {prog : Program} {w : World} {A : Around} {E : Value → Shared → Prop} {h : Heap} {g : Array GenState} {d : Drawn} {t : Nat} {os : OsState} {a : Addr} {o : Obj} {vs : Array Value}
  {nm q : Str} {C N : Addr} {bs bm : List Value} {sn : List Str} {sub : List Value} {ab : Bool} {col : Option Bool} {dd : Option Addr} {k0 k1 k2 k3 k5 : Option Value} {B newId : String} {mN mA : Str → Option Value} {name : Str} {v : Value}

theorem inst_entry {tk : Tok} {Q : Fin → Shared → Prop} (FB : ExcAttrBase B bm) (hC : h.get? C = some (excClassObj nm q C N bs bm true sn sub ab col dd k0 k1 k2 k3 k5 newId)) (hN : h.Ns N mN) (hna : mN name = none)
    (hB : typeLookup (.type B) name = pure none) (I : h.Inst a C mA) (hv : mA name = some v) (hq : Q (.done (.ret v)) ⟨h, g, d, t, os⟩) :
    wpAny (model prog w) A (Builtin.«object.__getattribute__» ⟨[.ref a, .str name tk], []⟩) Q E ⟨h, g, d, t, os⟩ := by
  obtain ⟨o, hx, hc, hnc, hd⟩ := I
  rcases hd with ⟨_, hmA⟩ | ⟨dx, hdx, hne, hns⟩
  · rw [hmA name] at hv; cases hv
  unfold Builtin.«object.__getattribute__»
  repeat (first | (with_reducible refine wpAny_loadPart_at hx ?_; rw [hc]) | (with_reducible refine wpAny_typeLookup_exc hC hN FB.mro hB ?_; rw [hna]) | wp_step)
  split
  · rename_i c hcd
    exact absurd hcd (hnc c)
  unfold instanceDict
  repeat (first | (with_reducible refine wpAny_loadPart_at hx ?_; rw [hc]) | with_reducible refine wpAny_loadPart_at hC ?_ | wp_step)
  rw [hdx]
  repeat (first | (with_reducible refine wpAny_nsGet hns.ns ?_; rw [hv]) | wp_step)
  exact hq

theorem inst_call {tk : Tok} {R : Result → Shared → Prop} (FB : ExcAttrBase B bm) (hC : h.get? C = some (excClassObj nm q C N bs bm true sn sub ab col dd k0 k1 k2 k3 k5 newId)) (hN : h.Ns N mN) (hna : mN name = none)
    (hB : typeLookup (.type B) name = pure none) (I : h.Inst a C mA) (hv : mA name = some v) (hq : R (.ok (.ret v)) ⟨h, g, d, t, os⟩) :
    codeAny (model prog w) A (.call (.builtin "BaseException.__getattribute__") ⟨[.ref a, .str name tk], []⟩) R ⟨h, g, d, t, os⟩ := by
  obtain ⟨o, hx, hc, _⟩ := id I
  exact codeAny_call_builtin FB.ga.plain F.entry_bexc_ga (wpAny_check_ga_own FB hC .base hx hc (inst_entry FB hC hN hna hB I hv hq))

theorem inst_by {tk : Tok} {fill expr : Bool} {Q : Value → Shared → Prop} (FB : ExcAttrBase B bm) (hC : h.get? C = some (excClassObj nm q C N bs bm true sn sub ab col dd k0 k1 k2 k3 k5 newId)) (hN : h.Ns N mN) (hna : mN name = none)
    (hng : mN "__getattribute__" = none) (hnh : mN "__getattr__" = none) (hB : typeLookup (.type B) name = pure none) (I : h.Inst a C mA) (hv : mA name = some v) (hh : handedOut v = pure v) (hq : Q v ⟨h, g, d, t, os⟩) :
    wpAny (model prog w) A (getAttrBy (.ref a) (.str name tk) fill expr) Q E ⟨h, g, d, t, os⟩ := by
  obtain ⟨o, hx, hc, _⟩ := id I
  have f3 := FB.ga.bind (.ref a)
  have hx0 : (expr && onTheHeap (Value.builtin "BaseException.__getattribute__")) = false := by cases expr <;> rfl
  have hx2 : (Value.builtin "BaseException.__getattribute__" == Value.builtin "object.__getattribute__") = false := by decide +kernel
  have hx1 : (onTheHeap (Value.ref C) && Value.builtin "BaseException.__getattribute__" == Value.builtin "object.__getattribute__") = false := by rw [hx2]; rfl
  repeat (any_goals (first | assumption | (with_reducible refine wpAny_loadPart_at hx ?_; rw [hc]) | (with_reducible refine wpAny_typeLookup_exc hC hN FB.mro FB.ga.lookup ?_; rw [hng]) | (with_reducible refine wpAny_typeLookup_exc hC hN FB.mro FB.noGetattr ?_; rw [hnh]) | wp_step))
  refine inst_call FB hC hN hna hB I hv ?_
  repeat (any_goals (first | assumption | (rw [hh]) | wp_step))
end
section
variable {prog : Program} {w : World} {A : Around} {E : Value → Shared → Prop} {h : Heap} {g : Array GenState} {d : Drawn} {t : Nat} {os : OsState} {a : Addr} {o : Obj} {vs : Array Value}
  {nm q : Str} {C N : Addr} {bs bm : List Value} {sn : List Str} {sub : List Value} {ab : Bool} {col : Option Bool} {dd : Option Addr} {k0 k1 k2 k3 k5 : Option Value} {B newId : String} {mN mA : Str → Option Value} {name : Str} {v : Value}
theorem inst_attr {expr : Bool} {Q : Value → Shared → Prop} (FB : ExcAttrBase B bm) (hC : h.get? C = some (excClassObj nm q C N bs bm true sn sub ab col dd k0 k1 k2 k3 k5 newId)) (hN : h.Ns N mN) (hna : mN name = none)
    (hng : mN "__getattribute__" = none) (hnh : mN "__getattr__" = none) (hB : typeLookup (.type B) name = pure none) (I : h.Inst a C mA) (hv : mA name = some v) (hh : handedOut v = pure v) (hq : Q v ⟨h, g, d, t + 1, os⟩) :
    wpAny (model prog w) A (getAttr (.ref a) name expr) Q E ⟨h, g, d, t, os⟩ := by
  unfold getAttr
  repeat (any_goals (first | assumption | with_reducible apply inst_by FB hC hN hna hng hnh hB I hv hh | wp_step))
end

section
variable {W V : Wd} {b : Nat}
theorem call_lam {scope : Scope} {τ : Env} {A : Around} {X : List Addr} {l : List PySem.Env} {s : Shared} {Q E : Value → Shared → Prop} {f c' : Addr} {name qual : Str} {params : Arguments} {body : Expr} {cl : List (Str × Addr)} {pm ctv : Value}
    (ho : (G X s.heap).get? f = some (kla_obj name qual params body scope cl pm c' ctv)) (hcd : (G X s.heap).CodeRec (.ref c') qual) (cx : Cx W (b + 1) A X s.heap) (fo : FrOK A X s.heap l)
    (hbind : bindArgs (kla_fn name qual params body scope cl pm (.ref c') ctv) ⟨[], []⟩ = pure []) (hk : scope.kind = .function) (hco : scope.isCoroutine = false) (hgen : scope.isGenerator = false) (hcell : ∀ x ∈ scope.names, x.2 ≠ .cell)
    (hτ : ∀ y d, τ.lookup y = some d → scope.names.lookup y = some .free ∧ (y == ("__classdict__" : Str)) = false ∧ ∃ c v, cl.lookup y = some c ∧ (G X s.heap).IsCell c (some v) ∧ RV W (G X s.heap) v d)
    (go : ∀ (env : PySem.Env) h₁ tk, EnvOK W b scope (A.deeper env) env τ (env.locals :: X) h₁ → FrOK (A.deeper env) (env.locals :: X) h₁ (env :: l) → env.frame = some env.locals → s.heap.get? env.locals = none → Keep s.heap h₁ →
      wpAny (model W.prog W.w) (A.deeper env) (eval body env) Q (fun e s' => wpAny (model W.prog W.w) (A.deeper env) (leaving env e) (fun _ s'' => E e s'') (fun e' s'' => E e' s'') s') { s with heap := h₁, toks := tk }) :
    wpAny (model W.prog W.w) A (call (.ref f) []) Q E s := by
  refine wpAny_call (kla_callFunE (fd := kla_fn name qual params body scope cl pm (.ref c') ctv) cx.room.depth (g_sub _ _ ho) rfl hco hgen rfl (hcd.keeps g_sub) ?_)
  rw [hbind]
  refine wpAny_pure (wpAny_newFunctionEnv hcell (by intro y hy; simp at hy) (fun h₁ hns hsb => ⟨(cx.top.lim.keeps g_sub).fresh _ hsb, kla_codeExpr ?_⟩) hk)
  have k1 : Keep s.heap h₁ := fun b o e => hsb.extBut b o (Nat.ne_of_lt (Heap.lt_size e)) (Heap.get?_push_of_some _ e)
  have nL : s.heap.get? s.heap.objs.size = none := none_of_size _
  have c2 := cx.more k1 nL (let ⟨o, _, _, e, _⟩ := hns; ⟨o, e⟩)
  have gg : Keep (G X s.heap) (G (s.heap.objs.size :: X) h₁) := g_more k1.chg nL
  have e : EnvOK W b scope (A.deeper (newEnv scope s.heap.objs.size mainGlobals cl (qual ++ ".<locals>.") (some f) (.ref c') none builtinsNs)) (newEnv scope s.heap.objs.size mainGlobals cl (qual ++ ".<locals>.") (some f) (.ref c') none builtinsNs) τ (s.heap.objs.size :: X) h₁ := by
    refine ⟨rfl, hk, rfl, rfl, cx.room.deeper, .head _, c2.has, c2.top, c2.hok, _, hns, fun y d hy => ?_⟩
    obtain ⟨q1, q2, c, v, q3, q4, q5⟩ := hτ y d hy
    exact ⟨v, q5.keep gg, .inr ⟨.inr ⟨q1, q2⟩, c, q3, q4.keeps gg⟩⟩
  exact go _ h₁ _ e (fo.push k1 nL e rfl) rfl nL k1

/-- a function of no arguments, made in a body, gives a datum -/
structure WorkU (W : Wd) (b : Nat) (X0 : List Addr) (h0 : Heap) (f : Addr) (d : D) : Prop where
  obj : ∃ o fd, (G X0 h0).get? f = some o ∧ o.data = .func fd
  go : ∀ (A : Around) (X : List Addr) (l : List PySem.Env) (s : Shared) (Q E : Value → Shared → Prop), Cx W b A X s.heap → FrOK A X s.heap l → Keep (G X0 h0) (G X s.heap) →
    (∀ v h' tk', Up [] X s.heap h' → RV W (G X h') v d → Q v { s with heap := h', toks := tk' }) → wpAny (model W.prog W.w) A (call (.ref f) []) Q E s
structure WorkR (W V : Wd) (b : Nat) (X0 : List Addr) (h0 : Heap) (f : Addr) : Prop where
  obj : ∃ o fd, (G X0 h0).get? f = some o ∧ o.data = .func fd
  go : ∀ (A : Around) (X : List Addr) (l : List PySem.Env) (s : Shared) (Q E : Value → Shared → Prop), Cx W b A X s.heap → FrOK A X s.heap l → Keep (G X0 h0) (G X s.heap) →
    (∀ h' tk' x, Fly V l X [] s.heap h' x .none → E (.ref x) { s with heap := h', toks := tk' }) → wpAny (model W.prog W.w) A (call (.ref f) []) Q E s

section
variable {scope : Scope} {τ : Env} {X0 : List Addr} {h0 : Heap} {f c' : Addr} {name qual : Str} {params : Arguments} {body : Expr} {cl : List (Str × Addr)} {pm ctv : Value} {d : D}
theorem work_u (ho : (G X0 h0).get? f = some (kla_obj name qual params body scope cl pm c' ctv)) (hcd : (G X0 h0).CodeRec (.ref c') qual)
    (hbind : bindArgs (kla_fn name qual params body scope cl pm (.ref c') ctv) ⟨[], []⟩ = pure []) (hk : scope.kind = .function) (hco : scope.isCoroutine = false) (hgen : scope.isGenerator = false) (hcell : ∀ x ∈ scope.names, x.2 ≠ .cell)
    (hτ : ∀ y d, τ.lookup y = some d → scope.names.lookup y = some .free ∧ (y == ("__classdict__" : Str)) = false ∧ ∃ c v, cl.lookup y = some c ∧ (G X0 h0).IsCell c (some v) ∧ RV W (G X0 h0) v d)
    (hb : EvU W b scope τ body d) : WorkU W (b + 1) X0 h0 f d := .mk ⟨_, _, ho, rfl⟩ fun A X l s Q E cx fo kk h => by
  refine call_lam (kk _ _ ho) (hcd.keeps kk) cx fo hbind hk hco hgen hcell (fun y d hy => ?_) fun env h₁ tk e fo1 hf nL k1 => hb.go _ env _ l _ _ _ e fo1 hf fun v h₂ t₂ u r => ?_
  · obtain ⟨q1, q2, c, v, q3, q4, q5⟩ := hτ y d hy
    exact ⟨q1, q2, c, v, q3, q4.keeps kk, q5.keep kk⟩
  · have gg : Keep (G X s.heap) (G (env.locals :: X) h₁) := g_more k1.chg nL
    exact h v h₂ t₂ ⟨fun b o e => u.keep _ _ (gg _ _ e), fun b _ ⟨o, e⟩ => u.ext b (by simp) ⟨o, k1 _ _ e⟩, fun b o _ e n => u.ups b o (by simp) (k1 _ _ e) n⟩ (r.keep g_tail)
theorem work_r (ho : (G X0 h0).get? f = some (kla_obj name qual params body scope cl pm c' ctv)) (hcd : (G X0 h0).CodeRec (.ref c') qual)
    (hbind : bindArgs (kla_fn name qual params body scope cl pm (.ref c') ctv) ⟨[], []⟩ = pure []) (hk : scope.kind = .function) (hco : scope.isCoroutine = false) (hgen : scope.isGenerator = false) (hcell : ∀ x ∈ scope.names, x.2 ≠ .cell)
    (hτ : ∀ y d, τ.lookup y = some d → scope.names.lookup y = some .free ∧ (y == ("__classdict__" : Str)) = false ∧ ∃ c v, cl.lookup y = some c ∧ (G X0 h0).IsCell c (some v) ∧ RV W (G X0 h0) v d)
    (hb : EvR W V b scope τ body) : WorkR W V (b + 1) X0 h0 f := .mk ⟨_, _, ho, rfl⟩ fun A X l s Q E cx fo kk h => by
  refine call_lam (kk _ _ ho) (hcd.keeps kk) cx fo hbind hk hco hgen hcell (fun y d hy => ?_) fun env h₁ tk e fo1 hf nL k1 => hb.go _ env env _ l _ _ _ e fo1 hf hf fun h₂ t₂ x fl F => ?_
  · obtain ⟨q1, q2, c, v, q3, q4, q5⟩ := hτ y d hy
    exact ⟨q1, q2, c, v, q3, q4.keeps kk, q5.keep kk⟩
  · exact flo_leave F.flo (by show A.frames.map _ = _; rw [fo.fr]; rfl) hf fun h₃ F3 => h h₃ t₂ x (F3.out k1 nL)
end

theorem told_bind (pm cd doc : Value) : ∀ (vs : List Value), vs.length = 1 → bindArgs (docDef (nameS (stm 89)) (argsS (stm 89)) (bodyS (stm 89)) (scopeS (stm 89)) pm cd doc) ⟨vs, []⟩ = pure ([Str.ofString "work"].zip vs) := len1 fun _ => by kernel_rfl!

/-- _law_told, all well -/
theorem told_u {X0 : List Addr} {h0 : Heap} {f : Addr} {d : D} (wk : WorkU W b X0 h0 f d) {A : Around} {X : List Addr} {l : List PySem.Env} {s : Shared} {a : Addr} {Q E : Value → Shared → Prop}
    (ha : W.mg (Str.ofString "_law_told") = some (.ref a)) (cx : Cx W (b + 1) A X s.heap) (fo : FrOK A X s.heap l) (kk : Keep (G X0 h0) (G X s.heap))
    (h : ∀ v h' tk', Up [] X s.heap h' → RV W (G X h') v d → Q v { s with heap := h', toks := tk' }) : wpAny (model W.prog W.w) A (call (.ref a) [.ref f]) Q E s := by
  refine call_enter (k := 89) (b := b) (ps := [Str.ofString "work"]) (ds := [.adr f]) (by decide) rfl rfl (okFn_is (by kernel_rfl!)) told_bind ha cx (.cons (.adr f) .nil) fun env h₁ tk e hf nL k1 => ?_
  generalize (fun (e : Value) (s' : Shared) => wpAny (model W.prog W.w) (A.deeper env) (leaving env e) (fun _ s'' => E e s'') (fun e' s'' => E e' s'') s') = E1
  have fo1 := fo.push k1 nL e hf
  have gg : Keep (G X s.heap) (G (env.locals :: X) h₁) := g_more k1.chg nL
  obtain ⟨o, fd, ho, hd⟩ := wk.obj
  conv => arg 3; arg 1; whnf
  refine wpAny_execs_cons (wpAny_Try_except (wpAny_execs_cons (wpAny_Return_some (Call_ ((ev_var (W := W) (b := b) (sc := scopeS (stm 89)) (d := .adr f) (by kernel_rfl!) (by kernel_rfl!)).go _ env _ _ _ _ e fun v h₂ t₂ k₂ r₂ => ?_)))))
  cases r₂
  have kk2 : Keep (G X0 h0) (G (env.locals :: X) h₂) := kk.trans (gg.trans (g_keep k₂))
  refine callWith_function (first := []) (args := []) (evalArgs_nil3 ⟨⟨g_sub _ _ (kk2 _ _ ho), hd⟩, ?_⟩)
  refine wk.go _ _ _ _ _ _ (e.keep k₂).cx (fo1.keep k₂) kk2 fun v h₃ t₃ u r => ?_
  refine h v h₃ t₃ ⟨fun b o e => u.keep _ _ (g_keep k₂ _ _ (gg _ _ e)), fun b _ ⟨o, e⟩ => u.ext b (by simp) ⟨o, k₂ _ _ (k1 _ _ e)⟩, fun b o _ e n => u.ups b o (by simp) (k₂ _ _ (k1 _ _ e)) n⟩ (r.keep g_tail)

/-- _law_told of work that raises -/
theorem told_r {X0 : List Addr} {h0 : Heap} {f : Addr} (wk : WorkR W (W.set false) b X0 h0 f) {A : Around} {X : List Addr} {l : List PySem.Env} {s : Shared} {a : Addr} {Q E : Value → Shared → Prop}
    (ha : W.mg (Str.ofString "_law_told") = some (.ref a)) (cx : Cx W (b + 1) A X s.heap) (fo : FrOK A X s.heap l) (kk : Keep (G X0 h0) (G X s.heap))
    (h : ∀ v h' tk', Up [] X s.heap h' → RV W (G X h') v (.str (Str.ofString "domain")) → Q v { s with heap := h', toks := tk' }) : wpAny (model W.prog W.w) A (call (.ref a) [.ref f]) Q E s := by
  refine call_enter (k := 89) (b := b) (ps := [Str.ofString "work"]) (ds := [.adr f]) (by decide) rfl rfl (okFn_is (by kernel_rfl!)) told_bind ha cx (.cons (.adr f) .nil) fun env h₁ tk e hf nL k1 => ?_
  generalize (fun (e : Value) (s' : Shared) => wpAny (model W.prog W.w) (A.deeper env) (leaving env e) (fun _ s'' => E e s'') (fun e' s'' => E e' s'') s') = E1
  have fo1 := fo.push k1 nL e hf
  have gg : Keep (G X s.heap) (G (env.locals :: X) h₁) := g_more k1.chg nL
  obtain ⟨o, fd, ho, hd⟩ := wk.obj
  conv => arg 3; arg 1; whnf
  refine wpAny_execs_cons (wpAny_Try_except (wpAny_execs_cons (wpAny_Return_some (Call_ ((ev_var (W := W) (b := b) (sc := scopeS (stm 89)) (d := .adr f) (by kernel_rfl!) (by kernel_rfl!)).go _ env _ _ _ _ e fun v h₂ t₂ k₂ r₂ => ?_)))))
  cases r₂
  have kk2 : Keep (G X0 h0) (G (env.locals :: X) h₂) := kk.trans (gg.trans (g_keep k₂))
  refine callWith_function (first := []) (args := []) (evalArgs_nil3 ⟨⟨g_sub _ _ (kk2 _ _ ho), hd⟩, ?_⟩)
  have e₂ := e.keep k₂
  refine wk.go _ _ _ _ _ _ e₂.cx (fo1.keep k₂) kk2 fun h₃ t₃ x F => ?_
  refine noted_step F (fo1.keep k₂).fr hf fun h₄ fl₄ F₄ _ => ?_
  refine flight_step (s := { s with heap := h₄, toks := t₃ }) (fr := none) F₄ fun h₅ F₅ _ => ?_
  refine wpAny_handleBy_cons ?_ (by intro q; cases q)
  have e₅ := e₂.up F₅.up
  obtain ⟨C, dd, T, cx', vs, sl, oT, ts, m', t, c1, hx, v1, v2, hcx, ddn, ddx, hm, hmk, _⟩ := F₅.th.obj
  obtain ⟨C', N, mN, oC, f', o', pm, doc, c, q1, q2, ⟨nm, q, bs, sn, sub, col, dd0, p0, p1', p2', p3, p5, rfl⟩, q3, q4, q5, _⟩ := e₂.top.cf.ex
  rw [show W.mg (Str.ofString "CasFail") = some (.ref C) from c1] at q1; cases q1
  refine codeAny_handlers_test (Name_function_global (by rw [e.scope]; exact e.kind) (by show env.scope.names.lookup _ = _; rw [e.scope]; kernel_rfl!) (loadGlobal_global (mg := W.mg) (by rw [e.glob]; exact e₅.top.gl.keeps g_sub) c1 ?_) (by decide))
  refine wpAny_excMatches_sub_self (F₅.keep _ _ q2) hx rfl rfl ?_
  refine codeAny_handlers_suite_as (flight_step (fr := none) F₅ fun h₆ F₆ _ => ?_)
  have e₆ := e₂.up F₆.up
  obtain ⟨m6, n6, _⟩ := e₆.loc
  have hkw : env.kindOf (Str.ofString "wrong") = some .local := by show env.scope.names.lookup _ = _; rw [e.scope]; kernel_rfl!
  have hblk : (env.scope.kind == .class || (env.scope.kind == .module && env.locals != env.globals)) = false := by rw [e.scope]; exact kind_blk e.kind _ _
  have ek : env.scope.kind = .function := by rw [e.scope]; exact e.kind
  refine wpAny_storeName_local hkw n6 (fun h₇ n7 s7 => ?_) hblk
  obtain ⟨C2, dd2, T2, cx2, vs2, sl2, oT2, ts2, m2, t2, c2, hx2, v12, v22, hcx2, ddn2, ddx2, hm2, hmk2, _⟩ := F₆.th.obj
  have c2' : C2 = C := by have := (show W.mg (Str.ofString "CasFail") = some (.ref C2) from c2).symm.trans c1; cases this; rfl
  subst c2'
  have xL : x ≠ env.locals := fun z => by
    obtain ⟨o, ho⟩ := e₂.has _ e₂.inX
    have := F₆.th.new; rw [z, ho] at this; cases this
  have dL : dd2 ≠ env.locals := fun z => by
    obtain ⟨o, ho⟩ := e₂.has _ e₂.inX
    rw [z, ho] at ddn2; cases ddn2
  have hx7 : h₇.get? x = _ := (s7.2 x xL).trans hx2
  have nX : ∀ {b o}, (G (env.locals :: X) h₂).get? b = some o → h₇.get? b = some o := fun {b o} z => (s7.2 b (fun y => g_not z (y ▸ .head _))).trans (F₆.keep _ _ z)
  have N7 : h₇.Ns N mN := let ⟨o, es, ep, eo, r⟩ := q3; ⟨o, es, ep, nX eo, r⟩
  have I7 : h₇.Inst x C2 m2 := ⟨_, hx7, rfl, (fun c q => by cases q), .inr ⟨dd2, rfl, ddx2, let ⟨o, es, ep, eo, r⟩ := hm2; ⟨o, es, ep, (s7.2 dd2 dL).trans eo, r⟩⟩⟩
  refine wpAny_execs_cons (wpAny_Return_some (Attribute_name (wpAny_Name (wpAny_loadName_local ek hkw n7 (v := .ref x) (by simp) ?_) (by kernel_rfl!))))
  refine inst_attr PySem.F.attrBase_Exception (nX q2) N7 (q5 _ (by decide)) (q5 _ (by decide)) (q5 _ (by decide)) (xB (.inl rfl)) I7 hmk2 rfl ?_
  refine wpAny_nameGoes hkw n7 hblk fun h₈ m8 n8 s8 => ?_
  have nl : ∀ {b o}, s.heap.get? b = some o → b ≠ env.locals := fun {b o} e z => by rw [z, nL] at e; cases e
  refine h _ h₈ _ ⟨fun b o eb => ?_, fun b _ ⟨o, eb⟩ => ?_, fun b o _ eb n => ?_⟩ (.str _ _)
  · have z := nl (g_sub _ _ eb)
    exact (s8.2 b z).trans ((s7.2 b z).trans (F₆.keep _ _ (g_keep k₂ _ _ (gg _ _ eb))))
  · obtain ⟨o', e'⟩ := F₆.ext b ⟨o, k₂ _ _ (k1 _ _ eb)⟩
    exact ⟨o', (s8.2 b (nl eb)).trans ((s7.2 b (nl eb)).trans e')⟩
  · obtain ⟨sl', e'⟩ := F₆.ups b o (by simp) (k₂ _ _ (k1 _ _ eb)) n
    exact ⟨sl', (s8.2 b (nl eb)).trans ((s7.2 b (nl eb)).trans e')⟩
end
section
variable {W : Wd}
abbrev Nm (x : Int) : D := .tup [.str (Str.ofString "num"), .int x, .int 1]
abbrev Sm (l : List D) : D := .tup [.str (Str.ofString "sum"), .tup l]
abbrev Pr (l : List D) : D := .tup [.str (Str.ofString "prod"), .tup l]
abbrev Fc (l : List D) : D := .tup [.str (Str.ofString "call"), .str (Str.ofString "factorial"), .tup l]
abbrev Sy : D := .tup [.str (Str.ofString "sym"), .str (Str.ofString "n")]

theorem c_gcd (F : Fa W) (x : Int) : CallOK W 1 (Str.ofString "gcd") [.int x, .int 1] (.int 1) := by
  refine call_ok' (k := 3) (ps := [Str.ofString "a", Str.ofString "b"]) (d' := ?d) rfl (by decide) rfl rfl (by kernel_rfl!) (fun _ _ _ => len2 fun _ _ => by kernel_rfl!) ?_ ?_
  rotate_left
  · conv => arg 5; whnf
    (with_reducible apply xs_seq; apply x1_swap2; apply ev_tup; apply evs_cons; apply ev_call_bi; exact bi_abs (by assumption); kernel_rfl!; kernel_rfl!; apply evs_cons; apply ev_var; apply lk_zip; exact lk_hd; kernel_rfl!; exact evs_nil)
    intros
    (with_reducible kernel_rfl!; exact cv_abs)
    intros
    kernel_rfl!
    intros
    (with_reducible kernel_rfl!; apply evs_cons; apply ev_call_bi; exact bi_abs (by assumption); kernel_rfl!; kernel_rfl!; apply evs_cons; apply ev_var; apply lk_zip; apply lk_tl; kernel_rfl!; apply lk_zip; exact lk_hd; kernel_rfl!; exact evs_nil)
    intros
    (with_reducible kernel_rfl!; exact cv_abs1)
    intros
    kernel_rfl!
    intros
    (with_reducible kernel_rfl!; exact evs_nil)
    intros
    kernel_rfl!
    intros
    kernel_rfl!
    exact leT (by kernel_rfl!)
    (with_reducible kernel_rfl!; kernel_rfl!)
    intro env h; cases env; subst h
    (with_reducible kernel_rfl!; apply xk_nxt; apply xs_seq; apply x1_wh; apply wh_step; apply ts_cmp; apply ev_var; apply lk_tl; kernel_rfl!; exact lk_hd; kernel_rfl!; exact ev_int; apply op_neI)
    exact isT (by kernel_rfl!)
    (with_reducible kernel_rfl!; apply whk_t; apply xs_seq; apply x1_swap2; apply ev_tup; apply evs_cons; apply ev_var; apply lk_tl; kernel_rfl!; exact lk_hd; kernel_rfl!; apply evs_cons; apply ev_bin; apply ev_var; exact lk_hd; kernel_rfl!; apply ev_var; apply lk_tl; kernel_rfl!; exact lk_hd; kernel_rfl!; exact op_fmod1; exact evs_nil)
    intros
    kernel_rfl!
    intros
    kernel_rfl!
    exact leT (by kernel_rfl!)
    (with_reducible kernel_rfl!; kernel_rfl!)
    intro env h; cases env; subst h
    (with_reducible kernel_rfl!; apply xk_nxt; exact xs_nil; apply wh_step; apply ts_cmp; apply ev_var; apply lk_tl; kernel_rfl!; exact lk_hd; kernel_rfl!; exact ev_int; apply op_neI)
    exact isF (by kernel_rfl!)
    (with_reducible kernel_rfl!; exact whk_f; apply xk_nxt; apply xs_seq; apply x1_return; apply ev_var; exact lk_hd; kernel_rfl!; exact xk_ret)
  · rfl

theorem c_rat (F : Fa W) (x : Int) : CallOK W 2 (Str.ofString "rat") [.int x, .int 1] (.tup [.int x, .int 1]) := by
  refine call_ok' (k := 9) (ps := [Str.ofString "top", Str.ofString "bottom"]) (d' := ?d) rfl (by decide) rfl rfl (by kernel_rfl!) (fun _ _ _ => len2 fun _ _ => by kernel_rfl!) ?_ ?_
  rotate_left
  · conv => arg 5; whnf
    (with_reducible apply xs_seq; apply x1_if; apply ts_cmp; apply ev_var; apply lk_zip; apply lk_tl; kernel_rfl!; apply lk_zip; exact lk_hd; kernel_rfl!; exact ev_int; apply op_eqI)
    exact isF (by kernel_rfl!)
    (with_reducible kernel_rfl!; apply ar_f; exact xs_nil; apply xk_nxt; apply xs_seq; apply x1_assign; apply ev_if; apply ts_cmp; apply ev_var; apply lk_zip; apply lk_tl; kernel_rfl!; apply lk_zip; exact lk_hd; kernel_rfl!; exact ev_int; apply op_gtI)
    exact isT (by kernel_rfl!)
    (with_reducible kernel_rfl!; apply are_t; apply ev_call; kernel_rfl!; kernel_rfl!; apply evs_cons; apply ev_var; apply lk_zip; exact lk_hd; kernel_rfl!; apply evs_cons; apply ev_var; apply lk_zip; apply lk_tl; kernel_rfl!; apply lk_zip; exact lk_hd; kernel_rfl!; exact evs_nil)
    intros
    kernel_rfl!
    intros
    (with_reducible kernel_rfl!; exact c_gcd (by assumption) _)
    exact leT (by kernel_rfl!); intros
    (with_reducible kernel_rfl!; kernel_rfl!)
    intros
    (with_reducible kernel_rfl!; apply xk_nxt; apply xs_seq; apply x1_return; apply ev_tup; apply evs_cons; apply ev_bin; apply ev_var; apply lk_tl; kernel_rfl!; apply lk_zip; exact lk_hd; kernel_rfl!; apply ev_var; exact lk_hd; kernel_rfl!; exact op_fdiv1; apply evs_cons; apply ev_bin; apply ev_var; apply lk_tl; kernel_rfl!; apply lk_zip; apply lk_tl; kernel_rfl!; apply lk_zip; exact lk_hd; kernel_rfl!; apply ev_var; exact lk_hd; kernel_rfl!; exact op_fdiv1; exact evs_nil)
    intros
    kernel_rfl!
    intros
    kernel_rfl!
    exact leT (by kernel_rfl!)
    with_reducible exact xk_ret
  · rfl

theorem c_radd (F : Fa W) (x y : Int) : CallOK W 3 (Str.ofString "radd") [.tup [.int x, .int 1], .tup [.int y, .int 1]] (.tup [.int (x + y), .int 1]) := by
  refine call_ok' (k := 10) (ps := [Str.ofString "a", Str.ofString "b"]) (d' := ?d) rfl (by decide) rfl rfl (by kernel_rfl!) (fun _ _ _ => len2 fun _ _ => by kernel_rfl!) ?_ ?_
  rotate_left
  · conv => arg 5; whnf
    (with_reducible apply xs_seq; apply x1_return; apply ev_call; kernel_rfl!; kernel_rfl!; apply evs_cons; apply ev_bin; apply ev_bin; apply ev_at; apply ev_var; apply lk_zip; exact lk_hd; kernel_rfl!; exact ev_int; apply At.tup; exact Nth.n0)
    intros
    (with_reducible kernel_rfl!; apply ev_at; apply ev_var; apply lk_zip; apply lk_tl; kernel_rfl!; apply lk_zip; exact lk_hd; kernel_rfl!; exact ev_int; apply At.tup; exact Nth.n1)
    intros
    (with_reducible kernel_rfl!; exact op_mul1; apply ev_bin; apply ev_at; apply ev_var; apply lk_zip; apply lk_tl; kernel_rfl!; apply lk_zip; exact lk_hd; kernel_rfl!; exact ev_int; apply At.tup; exact Nth.n0)
    intros
    (with_reducible kernel_rfl!; apply ev_at; apply ev_var; apply lk_zip; exact lk_hd; kernel_rfl!; exact ev_int; apply At.tup; exact Nth.n1)
    intros
    (with_reducible kernel_rfl!; exact op_mul1; exact op_add; apply evs_cons; apply ev_bin; apply ev_at; apply ev_var; apply lk_zip; exact lk_hd; kernel_rfl!; exact ev_int; apply At.tup; exact Nth.n1)
    intros
    (with_reducible kernel_rfl!; apply ev_at; apply ev_var; apply lk_zip; apply lk_tl; kernel_rfl!; apply lk_zip; exact lk_hd; kernel_rfl!; exact ev_int; apply At.tup; exact Nth.n1)
    intros
    (with_reducible kernel_rfl!; exact op_mul1; exact evs_nil)
    intros
    kernel_rfl!
    intros
    (with_reducible kernel_rfl!; exact c_rat (by assumption) _)
    exact leT (by kernel_rfl!); intros
    (with_reducible kernel_rfl!; exact xk_ret)
  · rfl
theorem c_rmul (F : Fa W) (x y : Int) (m : IntMulOk x y) : CallOK W 3 (Str.ofString "rmul") [.tup [.int x, .int 1], .tup [.int y, .int 1]] (.tup [.int (x * y), .int 1]) := by
  refine call_ok' (k := 11) (ps := [Str.ofString "a", Str.ofString "b"]) (d' := ?d) rfl (by decide) rfl rfl (by kernel_rfl!) (fun _ _ _ => len2 fun _ _ => by kernel_rfl!) ?_ ?_
  rotate_left
  · conv => arg 5; whnf
    (with_reducible apply xs_seq; apply x1_return; apply ev_call; kernel_rfl!; kernel_rfl!; apply evs_cons; apply ev_bin; apply ev_at; apply ev_var; apply lk_zip; exact lk_hd; kernel_rfl!; exact ev_int; apply At.tup; exact Nth.n0)
    intros
    (with_reducible kernel_rfl!; apply ev_at; apply ev_var; apply lk_zip; apply lk_tl; kernel_rfl!; apply lk_zip; exact lk_hd; kernel_rfl!; exact ev_int; apply At.tup; exact Nth.n0)
    intros
    (with_reducible kernel_rfl!; apply op_mul)
    assumption
    (with_reducible apply evs_cons; apply ev_bin; apply ev_at; apply ev_var; apply lk_zip; exact lk_hd; kernel_rfl!; exact ev_int; apply At.tup; exact Nth.n1)
    intros
    (with_reducible kernel_rfl!; apply ev_at; apply ev_var; apply lk_zip; apply lk_tl; kernel_rfl!; apply lk_zip; exact lk_hd; kernel_rfl!; exact ev_int; apply At.tup; exact Nth.n1)
    intros
    (with_reducible kernel_rfl!; exact op_mul1; exact evs_nil)
    intros
    kernel_rfl!
    intros
    (with_reducible kernel_rfl!; exact c_rat (by assumption) _)
    exact leT (by kernel_rfl!); intros
    (with_reducible kernel_rfl!; exact xk_ret)
  · rfl

theorem c_tnum (F : Fa W) (x : Int) : CallOK W 3 (Str.ofString "t_num") [.int x, .int 1] (Nm x) := by
  refine call_ok' (k := 19) (ps := [Str.ofString "top", Str.ofString "bottom"]) (d' := ?d) rfl (by decide) rfl rfl (by kernel_rfl!) (fun _ _ _ => len2 fun _ _ => by kernel_rfl!) ?_ ?_
  rotate_left
  · conv => arg 5; whnf
    (with_reducible apply xs_seq; apply x1_assign; apply ev_call; kernel_rfl!; kernel_rfl!; apply evs_cons; apply ev_var; apply lk_zip; exact lk_hd; kernel_rfl!; apply evs_cons; apply ev_var; apply lk_zip; apply lk_tl; kernel_rfl!; apply lk_zip; exact lk_hd; kernel_rfl!; exact evs_nil)
    intros
    kernel_rfl!
    intros
    (with_reducible kernel_rfl!; exact c_rat (by assumption) _)
    exact leT (by kernel_rfl!); intros
    (with_reducible kernel_rfl!; kernel_rfl!)
    intros
    (with_reducible kernel_rfl!; apply xk_nxt; apply xs_seq; apply x1_return; apply ev_tup; apply evs_cons; exact ev_str; apply evs_cons; apply ev_at; apply ev_var; exact lk_hd; kernel_rfl!; exact ev_int; apply At.tup; exact Nth.n0)
    intros
    (with_reducible kernel_rfl!; apply evs_cons; apply ev_at; apply ev_var; exact lk_hd; kernel_rfl!; exact ev_int; apply At.tup; exact Nth.n1)
    intros
    (with_reducible kernel_rfl!; exact evs_nil)
    intros
    kernel_rfl!
    intros
    kernel_rfl!
    intros
    kernel_rfl!
    exact leT (by kernel_rfl!)
    with_reducible exact xk_ret
  · rfl

theorem c_tsym (F : Fa W) (n : Str) : CallOK W 1 (Str.ofString "t_sym") [.str n] (.tup [.str (Str.ofString "sym"), .str n]) := by
  refine call_ok' (k := 20) (ps := [Str.ofString "name"]) (d' := ?d) rfl (by decide) rfl rfl (by kernel_rfl!) (fun _ _ _ => len1 fun _ => by kernel_rfl!) ?_ ?_
  rotate_left
  · conv => arg 5; whnf
    (with_reducible apply xs_seq; apply x1_return; apply ev_tup; apply evs_cons; exact ev_str; apply evs_cons; apply ev_var; apply lk_zip; exact lk_hd; kernel_rfl!; exact evs_nil)
    intros
    kernel_rfl!
    intros
    kernel_rfl!
    exact leT (by kernel_rfl!)
    with_reducible exact xk_ret
  · rfl

theorem c_tsum2 (F : Fa W) (x y : D) : CallOK W 1 (Str.ofString "t_sum") [.lst [x, y]] (Sm [x, y]) := by
  refine call_ok' (k := 21) (ps := [Str.ofString "some_terms"]) (d' := ?d) rfl (by decide) rfl rfl (by kernel_rfl!) (fun _ _ _ => len1 fun _ => by kernel_rfl!) ?_ ?_
  rotate_left
  · conv => arg 5; whnf
    (with_reducible apply xs_seq; apply x1_if; apply ts_cmp; apply ev_call_bi; exact bi_len (by assumption); kernel_rfl!; kernel_rfl!; apply evs_cons; apply ev_var; apply lk_zip; exact lk_hd; kernel_rfl!; exact evs_nil)
    intros
    (with_reducible kernel_rfl!; apply cv_lenL; exact Len.l2)
    intros
    kernel_rfl!
    intros
    (with_reducible kernel_rfl!; exact ev_int; apply op_eqI)
    exact isF (by kernel_rfl!)
    (with_reducible kernel_rfl!; apply ar_f; exact xs_nil; apply xk_nxt; apply xs_seq; apply x1_return; apply ev_if; apply ts_cmp; apply ev_call_bi; exact bi_len (by assumption); kernel_rfl!; kernel_rfl!; apply evs_cons; apply ev_var; apply lk_zip; exact lk_hd; kernel_rfl!; exact evs_nil)
    intros
    (with_reducible kernel_rfl!; apply cv_lenL; exact Len.l2)
    intros
    kernel_rfl!
    intros
    (with_reducible kernel_rfl!; exact ev_int; apply op_eqI)
    exact isF (by kernel_rfl!)
    (with_reducible kernel_rfl!; apply are_f; apply ev_tup; apply evs_cons; exact ev_str; apply evs_cons; apply ev_call_ty; exact bi_tuple (by assumption); kernel_rfl!; kernel_rfl!; apply evs_cons; apply ev_var; apply lk_zip; exact lk_hd; kernel_rfl!; exact evs_nil)
    intros
    (with_reducible kernel_rfl!; apply cv_tuple_lst)
    exact leT (by kernel_rfl!); intros
    kernel_rfl!
    intros
    (with_reducible kernel_rfl!; exact evs_nil)
    intros
    kernel_rfl!
    intros
    kernel_rfl!
    exact leT (by kernel_rfl!)
    with_reducible exact xk_ret
  · rfl

theorem c_tprod2 (F : Fa W) (x y : D) : CallOK W 1 (Str.ofString "t_prod") [.lst [x, y]] (Pr [x, y]) := by
  refine call_ok' (k := 22) (ps := [Str.ofString "some_terms"]) (d' := ?d) rfl (by decide) rfl rfl (by kernel_rfl!) (fun _ _ _ => len1 fun _ => by kernel_rfl!) ?_ ?_
  rotate_left
  · conv => arg 5; whnf
    (with_reducible apply xs_seq; apply x1_if; apply ts_cmp; apply ev_call_bi; exact bi_len (by assumption); kernel_rfl!; kernel_rfl!; apply evs_cons; apply ev_var; apply lk_zip; exact lk_hd; kernel_rfl!; exact evs_nil)
    intros
    (with_reducible kernel_rfl!; apply cv_lenL; exact Len.l2)
    intros
    kernel_rfl!
    intros
    (with_reducible kernel_rfl!; exact ev_int; apply op_eqI)
    exact isF (by kernel_rfl!)
    (with_reducible kernel_rfl!; apply ar_f; exact xs_nil; apply xk_nxt; apply xs_seq; apply x1_return; apply ev_if; apply ts_cmp; apply ev_call_bi; exact bi_len (by assumption); kernel_rfl!; kernel_rfl!; apply evs_cons; apply ev_var; apply lk_zip; exact lk_hd; kernel_rfl!; exact evs_nil)
    intros
    (with_reducible kernel_rfl!; apply cv_lenL; exact Len.l2)
    intros
    kernel_rfl!
    intros
    (with_reducible kernel_rfl!; exact ev_int; apply op_eqI)
    exact isF (by kernel_rfl!)
    (with_reducible kernel_rfl!; apply are_f; apply ev_tup; apply evs_cons; exact ev_str; apply evs_cons; apply ev_call_ty; exact bi_tuple (by assumption); kernel_rfl!; kernel_rfl!; apply evs_cons; apply ev_var; apply lk_zip; exact lk_hd; kernel_rfl!; exact evs_nil)
    intros
    (with_reducible kernel_rfl!; apply cv_tuple_lst)
    exact leT (by kernel_rfl!); intros
    kernel_rfl!
    intros
    (with_reducible kernel_rfl!; exact evs_nil)
    intros
    kernel_rfl!
    intros
    kernel_rfl!
    exact leT (by kernel_rfl!)
    with_reducible exact xk_ret
  · rfl

theorem c_tprod3 (F : Fa W) (x y z : D) : CallOK W 1 (Str.ofString "t_prod") [.lst [x, y, z]] (Pr [x, y, z]) := by
  refine call_ok' (k := 22) (ps := [Str.ofString "some_terms"]) (d' := ?d) rfl (by decide) rfl rfl (by kernel_rfl!) (fun _ _ _ => len1 fun _ => by kernel_rfl!) ?_ ?_
  rotate_left
  · conv => arg 5; whnf
    (with_reducible apply xs_seq; apply x1_if; apply ts_cmp; apply ev_call_bi; exact bi_len (by assumption); kernel_rfl!; kernel_rfl!; apply evs_cons; apply ev_var; apply lk_zip; exact lk_hd; kernel_rfl!; exact evs_nil)
    intros
    (with_reducible kernel_rfl!; apply cv_lenL; exact Len.l3)
    intros
    kernel_rfl!
    intros
    (with_reducible kernel_rfl!; exact ev_int; apply op_eqI)
    exact isF (by kernel_rfl!)
    (with_reducible kernel_rfl!; apply ar_f; exact xs_nil; apply xk_nxt; apply xs_seq; apply x1_return; apply ev_if; apply ts_cmp; apply ev_call_bi; exact bi_len (by assumption); kernel_rfl!; kernel_rfl!; apply evs_cons; apply ev_var; apply lk_zip; exact lk_hd; kernel_rfl!; exact evs_nil)
    intros
    (with_reducible kernel_rfl!; apply cv_lenL; exact Len.l3)
    intros
    kernel_rfl!
    intros
    (with_reducible kernel_rfl!; exact ev_int; apply op_eqI)
    exact isF (by kernel_rfl!)
    (with_reducible kernel_rfl!; apply are_f; apply ev_tup; apply evs_cons; exact ev_str; apply evs_cons; apply ev_call_ty; exact bi_tuple (by assumption); kernel_rfl!; kernel_rfl!; apply evs_cons; apply ev_var; apply lk_zip; exact lk_hd; kernel_rfl!; exact evs_nil)
    intros
    (with_reducible kernel_rfl!; apply cv_tuple_lst)
    exact leT (by kernel_rfl!); intros
    kernel_rfl!
    intros
    (with_reducible kernel_rfl!; exact evs_nil)
    intros
    kernel_rfl!
    intros
    kernel_rfl!
    exact leT (by kernel_rfl!)
    with_reducible exact xk_ret
  · rfl

theorem c_tcall (F : Fa W) (n : Str) (x : D) : CallOK W 1 (Str.ofString "t_call") [.str n, .lst [x]] (.tup [.str (Str.ofString "call"), .str n, .tup [x]]) := by
  refine call_ok' (k := 23) (ps := [Str.ofString "name", Str.ofString "some_terms"]) (d' := ?d) rfl (by decide) rfl rfl (by kernel_rfl!) (fun _ _ _ => len2 fun _ _ => by kernel_rfl!) ?_ ?_
  rotate_left
  · conv => arg 5; whnf
    (with_reducible apply xs_seq; apply x1_return; apply ev_tup; apply evs_cons; exact ev_str; apply evs_cons; apply ev_var; apply lk_zip; exact lk_hd; kernel_rfl!; apply evs_cons; apply ev_call_ty; exact bi_tuple (by assumption); kernel_rfl!; kernel_rfl!; apply evs_cons; apply ev_var; apply lk_zip; apply lk_tl; kernel_rfl!; apply lk_zip; exact lk_hd; kernel_rfl!; exact evs_nil)
    intros
    (with_reducible kernel_rfl!; apply cv_tuple_lst)
    exact leT (by kernel_rfl!); intros
    kernel_rfl!
    intros
    (with_reducible kernel_rfl!; exact evs_nil)
    intros
    kernel_rfl!
    intros
    kernel_rfl!
    intros
    kernel_rfl!
    exact leT (by kernel_rfl!)
    with_reducible exact xk_ret
  · rfl

theorem c_whole (F : Fa W) (x : Int) : CallOK W 1 (Str.ofString "is_whole_num") [Nm x] (.bool true) := by
  refine call_ok' (k := 26) (ps := [Str.ofString "term"]) (d' := ?d) rfl (by decide) rfl rfl (by kernel_rfl!) (fun _ _ _ => len1 fun _ => by kernel_rfl!) ?_ ?_
  rotate_left
  · conv => arg 5; whnf
    (with_reducible apply xs_seq; apply x1_return; apply ev_bool; apply bos_and; apply ev_cmp; apply ev_at; apply ev_var; apply lk_zip; exact lk_hd; kernel_rfl!; exact ev_int; apply At.tup; exact Nth.n0)
    intros
    (with_reducible kernel_rfl!; exact ev_str; apply op_eqS)
    exact isT (by kernel_rfl!)
    (with_reducible kernel_rfl!; apply arb_t; apply bos_last; apply ev_cmp; apply ev_at; apply ev_var; apply lk_zip; exact lk_hd; kernel_rfl!; exact ev_int; apply At.tup; exact Nth.n2)
    intros
    (with_reducible kernel_rfl!; exact ev_int; apply op_eqI)
    exact isT (by kernel_rfl!)
    (with_reducible kernel_rfl!; exact xk_ret)
  · rfl

theorem c_in_num (F : Fa W) (x : Int) : CallOK W 1 (Str.ofString "inner_terms") [Nm x] (.lst []) := by
  refine call_ok' (k := 27) (ps := [Str.ofString "term"]) (d' := ?d) rfl (by decide) rfl rfl (by kernel_rfl!) (fun _ _ _ => len1 fun _ => by kernel_rfl!) ?_ ?_
  rotate_left
  · conv => arg 5; whnf
    (with_reducible apply xs_seq; apply x1_assign; apply ev_at; apply ev_var; apply lk_zip; exact lk_hd; kernel_rfl!; exact ev_int; apply At.tup; exact Nth.n0)
    intros
    (with_reducible kernel_rfl!; kernel_rfl!)
    intros
    (with_reducible kernel_rfl!; apply xk_nxt; apply xs_seq; apply x1_if; apply ts_cmp; apply ev_var; exact lk_hd; kernel_rfl!; apply ev_tup; apply evs_cons; exact ev_str; apply evs_cons; exact ev_str; apply evs_cons; exact ev_str; exact evs_nil)
    intros
    kernel_rfl!
    intros
    kernel_rfl!
    intros
    kernel_rfl!
    exact leT (by kernel_rfl!)
    (with_reducible apply op_inD; exact DP.str _; apply DPs.cons; exact DP.str _; apply DPs.cons; exact DP.str _; apply DPs.cons; exact DP.str _; exact DPs.nil; kernel_rfl!; kernel_rfl!)
    exact leT (by kernel_rfl!); exact isF (by kernel_rfl!)
    (with_reducible kernel_rfl!; apply ar_f; exact xs_nil; apply xk_nxt; apply xs_seq; apply x1_if; apply ts_cmp; apply ev_var; exact lk_hd; kernel_rfl!; apply ev_tup; apply evs_cons; exact ev_str; apply evs_cons; exact ev_str; exact evs_nil)
    intros
    kernel_rfl!
    intros
    kernel_rfl!
    exact leT (by kernel_rfl!)
    (with_reducible apply op_inD; exact DP.str _; apply DPs.cons; exact DP.str _; apply DPs.cons; exact DP.str _; exact DPs.nil; kernel_rfl!; kernel_rfl!)
    exact leT (by kernel_rfl!); exact isF (by kernel_rfl!)
    (with_reducible kernel_rfl!; apply ar_f; exact xs_nil; apply xk_nxt; apply xs_seq; apply x1_return; apply ev_if; apply ts_cmp; apply ev_var; exact lk_hd; kernel_rfl!; exact ev_str; apply op_eqS)
    exact isF (by kernel_rfl!)
    (with_reducible kernel_rfl!; apply are_f; apply ev_lst; exact evs_nil)
    exact leT (by kernel_rfl!)
    with_reducible exact xk_ret
  · rfl

theorem c_in_sym (F : Fa W) : CallOK W 1 (Str.ofString "inner_terms") [Sy] (.lst []) := by
  refine call_ok' (k := 27) (ps := [Str.ofString "term"]) (d' := ?d) rfl (by decide) rfl rfl (by kernel_rfl!) (fun _ _ _ => len1 fun _ => by kernel_rfl!) ?_ ?_
  rotate_left
  · conv => arg 5; whnf
    (with_reducible apply xs_seq; apply x1_assign; apply ev_at; apply ev_var; apply lk_zip; exact lk_hd; kernel_rfl!; exact ev_int; apply At.tup; exact Nth.n0)
    intros
    (with_reducible kernel_rfl!; kernel_rfl!)
    intros
    (with_reducible kernel_rfl!; apply xk_nxt; apply xs_seq; apply x1_if; apply ts_cmp; apply ev_var; exact lk_hd; kernel_rfl!; apply ev_tup; apply evs_cons; exact ev_str; apply evs_cons; exact ev_str; apply evs_cons; exact ev_str; exact evs_nil)
    intros
    kernel_rfl!
    intros
    kernel_rfl!
    intros
    kernel_rfl!
    exact leT (by kernel_rfl!)
    (with_reducible apply op_inD; exact DP.str _; apply DPs.cons; exact DP.str _; apply DPs.cons; exact DP.str _; apply DPs.cons; exact DP.str _; exact DPs.nil; kernel_rfl!; kernel_rfl!)
    exact leT (by kernel_rfl!); exact isF (by kernel_rfl!)
    (with_reducible kernel_rfl!; apply ar_f; exact xs_nil; apply xk_nxt; apply xs_seq; apply x1_if; apply ts_cmp; apply ev_var; exact lk_hd; kernel_rfl!; apply ev_tup; apply evs_cons; exact ev_str; apply evs_cons; exact ev_str; exact evs_nil)
    intros
    kernel_rfl!
    intros
    kernel_rfl!
    exact leT (by kernel_rfl!)
    (with_reducible apply op_inD; exact DP.str _; apply DPs.cons; exact DP.str _; apply DPs.cons; exact DP.str _; exact DPs.nil; kernel_rfl!; kernel_rfl!)
    exact leT (by kernel_rfl!); exact isF (by kernel_rfl!)
    (with_reducible kernel_rfl!; apply ar_f; exact xs_nil; apply xk_nxt; apply xs_seq; apply x1_return; apply ev_if; apply ts_cmp; apply ev_var; exact lk_hd; kernel_rfl!; exact ev_str; apply op_eqS)
    exact isF (by kernel_rfl!)
    (with_reducible kernel_rfl!; apply are_f; apply ev_lst; exact evs_nil)
    exact leT (by kernel_rfl!)
    with_reducible exact xk_ret
  · rfl

theorem c_in_sum2 (F : Fa W) (x y : D) : CallOK W 1 (Str.ofString "inner_terms") [Sm [x, y]] (.lst [x, y]) := by
  refine call_ok' (k := 27) (ps := [Str.ofString "term"]) (d' := ?d) rfl (by decide) rfl rfl (by kernel_rfl!) (fun _ _ _ => len1 fun _ => by kernel_rfl!) ?_ ?_
  rotate_left
  · conv => arg 5; whnf
    (with_reducible apply xs_seq; apply x1_assign; apply ev_at; apply ev_var; apply lk_zip; exact lk_hd; kernel_rfl!; exact ev_int; apply At.tup; exact Nth.n0)
    intros
    (with_reducible kernel_rfl!; kernel_rfl!)
    intros
    (with_reducible kernel_rfl!; apply xk_nxt; apply xs_seq; apply x1_if; apply ts_cmp; apply ev_var; exact lk_hd; kernel_rfl!; apply ev_tup; apply evs_cons; exact ev_str; apply evs_cons; exact ev_str; apply evs_cons; exact ev_str; exact evs_nil)
    intros
    kernel_rfl!
    intros
    kernel_rfl!
    intros
    kernel_rfl!
    exact leT (by kernel_rfl!)
    (with_reducible apply op_inD; exact DP.str _; apply DPs.cons; exact DP.str _; apply DPs.cons; exact DP.str _; apply DPs.cons; exact DP.str _; exact DPs.nil; kernel_rfl!; kernel_rfl!)
    exact leT (by kernel_rfl!); exact isT (by kernel_rfl!)
    (with_reducible kernel_rfl!; apply ar_t; apply xs_seq; apply x1_return; apply ev_call_ty; exact bi_list (by assumption); kernel_rfl!; kernel_rfl!; apply evs_cons; apply ev_at; apply ev_var; apply lk_tl; kernel_rfl!; apply lk_zip; exact lk_hd; kernel_rfl!; exact ev_int; apply At.tup; exact Nth.n1)
    intros
    (with_reducible kernel_rfl!; exact evs_nil)
    intros
    (with_reducible kernel_rfl!; apply cv_list_tup)
    exact leT (by kernel_rfl!); intros
    kernel_rfl!
    intros
    (with_reducible kernel_rfl!; exact xk_ret; exact xk_ret)
  · rfl

theorem c_in_prod2 (F : Fa W) (x y : D) : CallOK W 1 (Str.ofString "inner_terms") [Pr [x, y]] (.lst [x, y]) := by
  refine call_ok' (k := 27) (ps := [Str.ofString "term"]) (d' := ?d) rfl (by decide) rfl rfl (by kernel_rfl!) (fun _ _ _ => len1 fun _ => by kernel_rfl!) ?_ ?_
  rotate_left
  · conv => arg 5; whnf
    (with_reducible apply xs_seq; apply x1_assign; apply ev_at; apply ev_var; apply lk_zip; exact lk_hd; kernel_rfl!; exact ev_int; apply At.tup; exact Nth.n0)
    intros
    (with_reducible kernel_rfl!; kernel_rfl!)
    intros
    (with_reducible kernel_rfl!; apply xk_nxt; apply xs_seq; apply x1_if; apply ts_cmp; apply ev_var; exact lk_hd; kernel_rfl!; apply ev_tup; apply evs_cons; exact ev_str; apply evs_cons; exact ev_str; apply evs_cons; exact ev_str; exact evs_nil)
    intros
    kernel_rfl!
    intros
    kernel_rfl!
    intros
    kernel_rfl!
    exact leT (by kernel_rfl!)
    (with_reducible apply op_inD; exact DP.str _; apply DPs.cons; exact DP.str _; apply DPs.cons; exact DP.str _; apply DPs.cons; exact DP.str _; exact DPs.nil; kernel_rfl!; kernel_rfl!)
    exact leT (by kernel_rfl!); exact isT (by kernel_rfl!)
    (with_reducible kernel_rfl!; apply ar_t; apply xs_seq; apply x1_return; apply ev_call_ty; exact bi_list (by assumption); kernel_rfl!; kernel_rfl!; apply evs_cons; apply ev_at; apply ev_var; apply lk_tl; kernel_rfl!; apply lk_zip; exact lk_hd; kernel_rfl!; exact ev_int; apply At.tup; exact Nth.n1)
    intros
    (with_reducible kernel_rfl!; exact evs_nil)
    intros
    (with_reducible kernel_rfl!; apply cv_list_tup)
    exact leT (by kernel_rfl!); intros
    kernel_rfl!
    intros
    (with_reducible kernel_rfl!; exact xk_ret; exact xk_ret)
  · rfl

theorem c_in_prod3 (F : Fa W) (x y z : D) : CallOK W 1 (Str.ofString "inner_terms") [Pr [x, y, z]] (.lst [x, y, z]) := by
  refine call_ok' (k := 27) (ps := [Str.ofString "term"]) (d' := ?d) rfl (by decide) rfl rfl (by kernel_rfl!) (fun _ _ _ => len1 fun _ => by kernel_rfl!) ?_ ?_
  rotate_left
  · conv => arg 5; whnf
    (with_reducible apply xs_seq; apply x1_assign; apply ev_at; apply ev_var; apply lk_zip; exact lk_hd; kernel_rfl!; exact ev_int; apply At.tup; exact Nth.n0)
    intros
    (with_reducible kernel_rfl!; kernel_rfl!)
    intros
    (with_reducible kernel_rfl!; apply xk_nxt; apply xs_seq; apply x1_if; apply ts_cmp; apply ev_var; exact lk_hd; kernel_rfl!; apply ev_tup; apply evs_cons; exact ev_str; apply evs_cons; exact ev_str; apply evs_cons; exact ev_str; exact evs_nil)
    intros
    kernel_rfl!
    intros
    kernel_rfl!
    intros
    kernel_rfl!
    exact leT (by kernel_rfl!)
    (with_reducible apply op_inD; exact DP.str _; apply DPs.cons; exact DP.str _; apply DPs.cons; exact DP.str _; apply DPs.cons; exact DP.str _; exact DPs.nil; kernel_rfl!; kernel_rfl!)
    exact leT (by kernel_rfl!); exact isT (by kernel_rfl!)
    (with_reducible kernel_rfl!; apply ar_t; apply xs_seq; apply x1_return; apply ev_call_ty; exact bi_list (by assumption); kernel_rfl!; kernel_rfl!; apply evs_cons; apply ev_at; apply ev_var; apply lk_tl; kernel_rfl!; apply lk_zip; exact lk_hd; kernel_rfl!; exact ev_int; apply At.tup; exact Nth.n1)
    intros
    (with_reducible kernel_rfl!; exact evs_nil)
    intros
    (with_reducible kernel_rfl!; apply cv_list_tup)
    exact leT (by kernel_rfl!); intros
    kernel_rfl!
    intros
    (with_reducible kernel_rfl!; exact xk_ret; exact xk_ret)
  · rfl

theorem c_in_call1 (F : Fa W) (x : D) : CallOK W 1 (Str.ofString "inner_terms") [Fc [x]] (.lst [x]) := by
  refine call_ok' (k := 27) (ps := [Str.ofString "term"]) (d' := ?d) rfl (by decide) rfl rfl (by kernel_rfl!) (fun _ _ _ => len1 fun _ => by kernel_rfl!) ?_ ?_
  rotate_left
  · conv => arg 5; whnf
    (with_reducible apply xs_seq; apply x1_assign; apply ev_at; apply ev_var; apply lk_zip; exact lk_hd; kernel_rfl!; exact ev_int; apply At.tup; exact Nth.n0)
    intros
    (with_reducible kernel_rfl!; kernel_rfl!)
    intros
    (with_reducible kernel_rfl!; apply xk_nxt; apply xs_seq; apply x1_if; apply ts_cmp; apply ev_var; exact lk_hd; kernel_rfl!; apply ev_tup; apply evs_cons; exact ev_str; apply evs_cons; exact ev_str; apply evs_cons; exact ev_str; exact evs_nil)
    intros
    kernel_rfl!
    intros
    kernel_rfl!
    intros
    kernel_rfl!
    exact leT (by kernel_rfl!)
    (with_reducible apply op_inD; exact DP.str _; apply DPs.cons; exact DP.str _; apply DPs.cons; exact DP.str _; apply DPs.cons; exact DP.str _; exact DPs.nil; kernel_rfl!; kernel_rfl!)
    exact leT (by kernel_rfl!); exact isF (by kernel_rfl!)
    (with_reducible kernel_rfl!; apply ar_f; exact xs_nil; apply xk_nxt; apply xs_seq; apply x1_if; apply ts_cmp; apply ev_var; exact lk_hd; kernel_rfl!; apply ev_tup; apply evs_cons; exact ev_str; apply evs_cons; exact ev_str; exact evs_nil)
    intros
    kernel_rfl!
    intros
    kernel_rfl!
    exact leT (by kernel_rfl!)
    (with_reducible apply op_inD; exact DP.str _; apply DPs.cons; exact DP.str _; apply DPs.cons; exact DP.str _; exact DPs.nil; kernel_rfl!; kernel_rfl!)
    exact leT (by kernel_rfl!); exact isF (by kernel_rfl!)
    (with_reducible kernel_rfl!; apply ar_f; exact xs_nil; apply xk_nxt; apply xs_seq; apply x1_return; apply ev_if; apply ts_cmp; apply ev_var; exact lk_hd; kernel_rfl!; exact ev_str; apply op_eqS)
    exact isT (by kernel_rfl!)
    (with_reducible kernel_rfl!; apply are_t; apply ev_call_ty; exact bi_list (by assumption); kernel_rfl!; kernel_rfl!; apply evs_cons; apply ev_at; apply ev_var; apply lk_tl; kernel_rfl!; apply lk_zip; exact lk_hd; kernel_rfl!; exact ev_int; apply At.tup; exact Nth.n2)
    intros
    (with_reducible kernel_rfl!; exact evs_nil)
    intros
    (with_reducible kernel_rfl!; apply cv_list_tup)
    exact leT (by kernel_rfl!); intros
    kernel_rfl!
    intros
    (with_reducible kernel_rfl!; exact xk_ret)
  · rfl

theorem c_wi_num (F : Fa W) (x : Int) (q : D) : CallOK W 1 (Str.ofString "with_inner") [Nm x, q] (Nm x) := by
  refine call_ok' (k := 28) (ps := [Str.ofString "term", Str.ofString "some_terms"]) (d' := ?d) rfl (by decide) rfl rfl (by kernel_rfl!) (fun _ _ _ => len2 fun _ _ => by kernel_rfl!) ?_ ?_
  rotate_left
  · conv => arg 5; whnf
    (with_reducible apply xs_seq; apply x1_assign; apply ev_at; apply ev_var; apply lk_zip; exact lk_hd; kernel_rfl!; exact ev_int; apply At.tup; exact Nth.n0)
    intros
    (with_reducible kernel_rfl!; kernel_rfl!)
    intros
    (with_reducible kernel_rfl!; apply xk_nxt; apply xs_seq; apply x1_if; apply ts_cmp; apply ev_var; exact lk_hd; kernel_rfl!; apply ev_tup; apply evs_cons; exact ev_str; apply evs_cons; exact ev_str; apply evs_cons; exact ev_str; exact evs_nil)
    intros
    kernel_rfl!
    intros
    kernel_rfl!
    intros
    kernel_rfl!
    exact leT (by kernel_rfl!)
    (with_reducible apply op_inD; exact DP.str _; apply DPs.cons; exact DP.str _; apply DPs.cons; exact DP.str _; apply DPs.cons; exact DP.str _; exact DPs.nil; kernel_rfl!; kernel_rfl!)
    exact leT (by kernel_rfl!); exact isF (by kernel_rfl!)
    (with_reducible kernel_rfl!; apply ar_f; exact xs_nil; apply xk_nxt; apply xs_seq; apply x1_if; apply ts_cmp; apply ev_var; exact lk_hd; kernel_rfl!; apply ev_tup; apply evs_cons; exact ev_str; apply evs_cons; exact ev_str; exact evs_nil)
    intros
    kernel_rfl!
    intros
    kernel_rfl!
    exact leT (by kernel_rfl!)
    (with_reducible apply op_inD; exact DP.str _; apply DPs.cons; exact DP.str _; apply DPs.cons; exact DP.str _; exact DPs.nil; kernel_rfl!; kernel_rfl!)
    exact leT (by kernel_rfl!); exact isF (by kernel_rfl!)
    (with_reducible kernel_rfl!; apply ar_f; exact xs_nil; apply xk_nxt; apply xs_seq; apply x1_return; apply ev_if; apply ts_cmp; apply ev_var; exact lk_hd; kernel_rfl!; exact ev_str; apply op_eqS)
    exact isF (by kernel_rfl!)
    (with_reducible kernel_rfl!; apply are_f; apply ev_var; apply lk_tl; kernel_rfl!; apply lk_zip; exact lk_hd; kernel_rfl!; exact xk_ret)
  · rfl

theorem c_wi_sum2 (F : Fa W) (x y p q : D) : CallOK W 1 (Str.ofString "with_inner") [Sm [x, y], .lst [p, q]] (Sm [p, q]) := by
  refine call_ok' (k := 28) (ps := [Str.ofString "term", Str.ofString "some_terms"]) (d' := ?d) rfl (by decide) rfl rfl (by kernel_rfl!) (fun _ _ _ => len2 fun _ _ => by kernel_rfl!) ?_ ?_
  rotate_left
  · conv => arg 5; whnf
    (with_reducible apply xs_seq; apply x1_assign; apply ev_at; apply ev_var; apply lk_zip; exact lk_hd; kernel_rfl!; exact ev_int; apply At.tup; exact Nth.n0)
    intros
    (with_reducible kernel_rfl!; kernel_rfl!)
    intros
    (with_reducible kernel_rfl!; apply xk_nxt; apply xs_seq; apply x1_if; apply ts_cmp; apply ev_var; exact lk_hd; kernel_rfl!; apply ev_tup; apply evs_cons; exact ev_str; apply evs_cons; exact ev_str; apply evs_cons; exact ev_str; exact evs_nil)
    intros
    kernel_rfl!
    intros
    kernel_rfl!
    intros
    kernel_rfl!
    exact leT (by kernel_rfl!)
    (with_reducible apply op_inD; exact DP.str _; apply DPs.cons; exact DP.str _; apply DPs.cons; exact DP.str _; apply DPs.cons; exact DP.str _; exact DPs.nil; kernel_rfl!; kernel_rfl!)
    exact leT (by kernel_rfl!); exact isT (by kernel_rfl!)
    (with_reducible kernel_rfl!; apply ar_t; apply xs_seq; apply x1_return; apply ev_tup; apply evs_cons; apply ev_var; exact lk_hd; kernel_rfl!; apply evs_cons; apply ev_call_ty; exact bi_tuple (by assumption); kernel_rfl!; kernel_rfl!; apply evs_cons; apply ev_var; apply lk_tl; kernel_rfl!; apply lk_zip; apply lk_tl; kernel_rfl!; apply lk_zip; exact lk_hd; kernel_rfl!; exact evs_nil)
    intros
    (with_reducible kernel_rfl!; apply cv_tuple_lst)
    exact leT (by kernel_rfl!); intros
    kernel_rfl!
    intros
    (with_reducible kernel_rfl!; exact evs_nil)
    intros
    kernel_rfl!
    intros
    kernel_rfl!
    exact leT (by kernel_rfl!)
    (with_reducible exact xk_ret; exact xk_ret)
  · rfl

theorem c_wi_prod2 (F : Fa W) (x y p q : D) : CallOK W 1 (Str.ofString "with_inner") [Pr [x, y], .lst [p, q]] (Pr [p, q]) := by
  refine call_ok' (k := 28) (ps := [Str.ofString "term", Str.ofString "some_terms"]) (d' := ?d) rfl (by decide) rfl rfl (by kernel_rfl!) (fun _ _ _ => len2 fun _ _ => by kernel_rfl!) ?_ ?_
  rotate_left
  · conv => arg 5; whnf
    (with_reducible apply xs_seq; apply x1_assign; apply ev_at; apply ev_var; apply lk_zip; exact lk_hd; kernel_rfl!; exact ev_int; apply At.tup; exact Nth.n0)
    intros
    (with_reducible kernel_rfl!; kernel_rfl!)
    intros
    (with_reducible kernel_rfl!; apply xk_nxt; apply xs_seq; apply x1_if; apply ts_cmp; apply ev_var; exact lk_hd; kernel_rfl!; apply ev_tup; apply evs_cons; exact ev_str; apply evs_cons; exact ev_str; apply evs_cons; exact ev_str; exact evs_nil)
    intros
    kernel_rfl!
    intros
    kernel_rfl!
    intros
    kernel_rfl!
    exact leT (by kernel_rfl!)
    (with_reducible apply op_inD; exact DP.str _; apply DPs.cons; exact DP.str _; apply DPs.cons; exact DP.str _; apply DPs.cons; exact DP.str _; exact DPs.nil; kernel_rfl!; kernel_rfl!)
    exact leT (by kernel_rfl!); exact isT (by kernel_rfl!)
    (with_reducible kernel_rfl!; apply ar_t; apply xs_seq; apply x1_return; apply ev_tup; apply evs_cons; apply ev_var; exact lk_hd; kernel_rfl!; apply evs_cons; apply ev_call_ty; exact bi_tuple (by assumption); kernel_rfl!; kernel_rfl!; apply evs_cons; apply ev_var; apply lk_tl; kernel_rfl!; apply lk_zip; apply lk_tl; kernel_rfl!; apply lk_zip; exact lk_hd; kernel_rfl!; exact evs_nil)
    intros
    (with_reducible kernel_rfl!; apply cv_tuple_lst)
    exact leT (by kernel_rfl!); intros
    kernel_rfl!
    intros
    (with_reducible kernel_rfl!; exact evs_nil)
    intros
    kernel_rfl!
    intros
    kernel_rfl!
    exact leT (by kernel_rfl!)
    (with_reducible exact xk_ret; exact xk_ret)
  · rfl

theorem c_wi_prod3 (F : Fa W) (x y z p q r : D) : CallOK W 1 (Str.ofString "with_inner") [Pr [x, y, z], .lst [p, q, r]] (Pr [p, q, r]) := by
  refine call_ok' (k := 28) (ps := [Str.ofString "term", Str.ofString "some_terms"]) (d' := ?d) rfl (by decide) rfl rfl (by kernel_rfl!) (fun _ _ _ => len2 fun _ _ => by kernel_rfl!) ?_ ?_
  rotate_left
  · conv => arg 5; whnf
    (with_reducible apply xs_seq; apply x1_assign; apply ev_at; apply ev_var; apply lk_zip; exact lk_hd; kernel_rfl!; exact ev_int; apply At.tup; exact Nth.n0)
    intros
    (with_reducible kernel_rfl!; kernel_rfl!)
    intros
    (with_reducible kernel_rfl!; apply xk_nxt; apply xs_seq; apply x1_if; apply ts_cmp; apply ev_var; exact lk_hd; kernel_rfl!; apply ev_tup; apply evs_cons; exact ev_str; apply evs_cons; exact ev_str; apply evs_cons; exact ev_str; exact evs_nil)
    intros
    kernel_rfl!
    intros
    kernel_rfl!
    intros
    kernel_rfl!
    exact leT (by kernel_rfl!)
    (with_reducible apply op_inD; exact DP.str _; apply DPs.cons; exact DP.str _; apply DPs.cons; exact DP.str _; apply DPs.cons; exact DP.str _; exact DPs.nil; kernel_rfl!; kernel_rfl!)
    exact leT (by kernel_rfl!); exact isT (by kernel_rfl!)
    (with_reducible kernel_rfl!; apply ar_t; apply xs_seq; apply x1_return; apply ev_tup; apply evs_cons; apply ev_var; exact lk_hd; kernel_rfl!; apply evs_cons; apply ev_call_ty; exact bi_tuple (by assumption); kernel_rfl!; kernel_rfl!; apply evs_cons; apply ev_var; apply lk_tl; kernel_rfl!; apply lk_zip; apply lk_tl; kernel_rfl!; apply lk_zip; exact lk_hd; kernel_rfl!; exact evs_nil)
    intros
    (with_reducible kernel_rfl!; apply cv_tuple_lst)
    exact leT (by kernel_rfl!); intros
    kernel_rfl!
    intros
    (with_reducible kernel_rfl!; exact evs_nil)
    intros
    kernel_rfl!
    intros
    kernel_rfl!
    exact leT (by kernel_rfl!)
    (with_reducible exact xk_ret; exact xk_ret)
  · rfl

theorem c_wi_call1 (F : Fa W) (x p : D) : CallOK W 1 (Str.ofString "with_inner") [Fc [x], .lst [p]] (Fc [p]) := by
  refine call_ok' (k := 28) (ps := [Str.ofString "term", Str.ofString "some_terms"]) (d' := ?d) rfl (by decide) rfl rfl (by kernel_rfl!) (fun _ _ _ => len2 fun _ _ => by kernel_rfl!) ?_ ?_
  rotate_left
  · conv => arg 5; whnf
    (with_reducible apply xs_seq; apply x1_assign; apply ev_at; apply ev_var; apply lk_zip; exact lk_hd; kernel_rfl!; exact ev_int; apply At.tup; exact Nth.n0)
    intros
    (with_reducible kernel_rfl!; kernel_rfl!)
    intros
    (with_reducible kernel_rfl!; apply xk_nxt; apply xs_seq; apply x1_if; apply ts_cmp; apply ev_var; exact lk_hd; kernel_rfl!; apply ev_tup; apply evs_cons; exact ev_str; apply evs_cons; exact ev_str; apply evs_cons; exact ev_str; exact evs_nil)
    intros
    kernel_rfl!
    intros
    kernel_rfl!
    intros
    kernel_rfl!
    exact leT (by kernel_rfl!)
    (with_reducible apply op_inD; exact DP.str _; apply DPs.cons; exact DP.str _; apply DPs.cons; exact DP.str _; apply DPs.cons; exact DP.str _; exact DPs.nil; kernel_rfl!; kernel_rfl!)
    exact leT (by kernel_rfl!); exact isF (by kernel_rfl!)
    (with_reducible kernel_rfl!; apply ar_f; exact xs_nil; apply xk_nxt; apply xs_seq; apply x1_if; apply ts_cmp; apply ev_var; exact lk_hd; kernel_rfl!; apply ev_tup; apply evs_cons; exact ev_str; apply evs_cons; exact ev_str; exact evs_nil)
    intros
    kernel_rfl!
    intros
    kernel_rfl!
    exact leT (by kernel_rfl!)
    (with_reducible apply op_inD; exact DP.str _; apply DPs.cons; exact DP.str _; apply DPs.cons; exact DP.str _; exact DPs.nil; kernel_rfl!; kernel_rfl!)
    exact leT (by kernel_rfl!); exact isF (by kernel_rfl!)
    (with_reducible kernel_rfl!; apply ar_f; exact xs_nil; apply xk_nxt; apply xs_seq; apply x1_return; apply ev_if; apply ts_cmp; apply ev_var; exact lk_hd; kernel_rfl!; exact ev_str; apply op_eqS)
    exact isT (by kernel_rfl!)
    (with_reducible kernel_rfl!; apply are_t; apply ev_tup; apply evs_cons; exact ev_str; apply evs_cons; apply ev_at; apply ev_var; apply lk_tl; kernel_rfl!; apply lk_zip; exact lk_hd; kernel_rfl!; exact ev_int; apply At.tup; exact Nth.n1)
    intros
    (with_reducible kernel_rfl!; apply evs_cons; apply ev_call_ty; exact bi_tuple (by assumption); kernel_rfl!; kernel_rfl!; apply evs_cons; apply ev_var; apply lk_tl; kernel_rfl!; apply lk_zip; apply lk_tl; kernel_rfl!; apply lk_zip; exact lk_hd; kernel_rfl!; exact evs_nil)
    intros
    (with_reducible kernel_rfl!; apply cv_tuple_lst)
    exact leT (by kernel_rfl!); intros
    kernel_rfl!
    intros
    (with_reducible kernel_rfl!; exact evs_nil)
    intros
    kernel_rfl!
    intros
    kernel_rfl!
    intros
    kernel_rfl!
    exact leT (by kernel_rfl!)
    with_reducible exact xk_ret
  · rfl

theorem c_sort0 (F : Fa W) : CallOK W 1 (Str.ofString "sort_terms") [.lst []] (.lst []) := by
  refine call_ok' (k := 43) (ps := [Str.ofString "some_terms"]) (d' := ?d) rfl (by decide) rfl rfl (by kernel_rfl!) (fun _ _ _ => len1 fun _ => by kernel_rfl!) ?_ ?_
  rotate_left
  · conv => arg 5; whnf
    (with_reducible apply xs_seq; apply x1_if; apply ts_cmp; apply ev_call_bi; exact bi_len (by assumption); kernel_rfl!; kernel_rfl!; apply evs_cons; apply ev_var; apply lk_zip; exact lk_hd; kernel_rfl!; exact evs_nil)
    intros
    (with_reducible kernel_rfl!; apply cv_lenL; exact Len.l0)
    intros
    kernel_rfl!
    intros
    (with_reducible kernel_rfl!; exact ev_int; apply op_ltI)
    exact isT (by kernel_rfl!)
    (with_reducible kernel_rfl!; apply ar_t; apply xs_seq; apply x1_return; apply ev_call_ty; exact bi_list (by assumption); kernel_rfl!; kernel_rfl!; apply evs_cons; apply ev_var; apply lk_zip; exact lk_hd; kernel_rfl!; exact evs_nil)
    intros
    (with_reducible kernel_rfl!; apply cv_list_lst)
    exact leT (by kernel_rfl!); intros
    kernel_rfl!
    intros
    (with_reducible kernel_rfl!; exact xk_ret; exact xk_ret)
  · rfl

theorem c_nterm (F : Fa W) (x : Int) : CallOK W 1 (Str.ofString "number_term") [.tup [.int x, .int 1]] (Nm x) := by
  refine call_ok' (k := 53) (ps := [Str.ofString "r"]) (d' := ?d) rfl (by decide) rfl rfl (by kernel_rfl!) (fun _ _ _ => len1 fun _ => by kernel_rfl!) ?_ ?_
  rotate_left
  · conv => arg 5; whnf
    (with_reducible apply xs_seq; apply x1_return; apply ev_tup; apply evs_cons; exact ev_str; apply evs_cons; apply ev_at; apply ev_var; apply lk_zip; exact lk_hd; kernel_rfl!; exact ev_int; apply At.tup; exact Nth.n0)
    intros
    (with_reducible kernel_rfl!; apply evs_cons; apply ev_at; apply ev_var; apply lk_zip; exact lk_hd; kernel_rfl!; exact ev_int; apply At.tup; exact Nth.n1)
    intros
    (with_reducible kernel_rfl!; exact evs_nil)
    intros
    kernel_rfl!
    intros
    kernel_rfl!
    intros
    kernel_rfl!
    exact leT (by kernel_rfl!)
    with_reducible exact xk_ret
  · rfl

theorem c_nrest (F : Fa W) (x : Int) : CallOK W 1 (Str.ofString "number_and_rest") [Nm x] (.tup [.tup [.int x, .int 1], Nm 1]) := by
  refine call_ok' (k := 54) (ps := [Str.ofString "t"]) (d' := ?d) rfl (by decide) rfl rfl (by kernel_rfl!) (fun _ _ _ => len1 fun _ => by kernel_rfl!) ?_ ?_
  rotate_left
  · conv => arg 5; whnf
    (with_reducible apply xs_seq; apply x1_if; apply ts_cmp; apply ev_at; apply ev_var; apply lk_zip; exact lk_hd; kernel_rfl!; exact ev_int; apply At.tup; exact Nth.n0)
    intros
    (with_reducible kernel_rfl!; exact ev_str; apply op_eqS)
    exact isT (by kernel_rfl!)
    (with_reducible kernel_rfl!; apply ar_t; apply xs_seq; apply x1_return; apply ev_tup; apply evs_cons; apply ev_tup; apply evs_cons; apply ev_at; apply ev_var; apply lk_zip; exact lk_hd; kernel_rfl!; exact ev_int; apply At.tup; exact Nth.n1)
    intros
    (with_reducible kernel_rfl!; apply evs_cons; apply ev_at; apply ev_var; apply lk_zip; exact lk_hd; kernel_rfl!; exact ev_int; apply At.tup; exact Nth.n2)
    intros
    (with_reducible kernel_rfl!; exact evs_nil)
    intros
    kernel_rfl!
    intros
    kernel_rfl!
    exact leT (by kernel_rfl!)
    (with_reducible apply evs_cons; apply ev_con; exact Fa.one (by assumption); kernel_rfl!; kernel_rfl!; exact evs_nil)
    intros
    kernel_rfl!
    intros
    kernel_rfl!
    exact leT (by kernel_rfl!)
    (with_reducible exact xk_ret; exact xk_ret)
  · rfl

theorem c_simp_num (F : Fa W) (x : Int) : CallOK W 3 (Str.ofString "simplify") [Nm x] (Nm x) := by
  refine call_ok' (k := 71) (ps := [Str.ofString "t"]) (d' := ?d) rfl (by decide) rfl rfl (by kernel_rfl!) (fun _ _ _ => len1 fun _ => by kernel_rfl!) ?_ ?_
  rotate_left
  · conv => arg 5; whnf
    (with_reducible apply xs_seq; apply x1_assign; apply ev_at; apply ev_var; apply lk_zip; exact lk_hd; kernel_rfl!; exact ev_int; apply At.tup; exact Nth.n0)
    intros
    (with_reducible kernel_rfl!; kernel_rfl!)
    intros
    (with_reducible kernel_rfl!; apply xk_nxt; apply xs_seq; apply x1_if; apply ts_cmp; apply ev_var; exact lk_hd; kernel_rfl!; exact ev_str; apply op_eqS)
    exact isT (by kernel_rfl!)
    (with_reducible kernel_rfl!; apply ar_t; apply xs_seq; apply x1_return; apply ev_call; kernel_rfl!; kernel_rfl!; apply evs_cons; apply ev_call; kernel_rfl!; kernel_rfl!; apply evs_cons; apply ev_at; apply ev_var; apply lk_tl; kernel_rfl!; apply lk_zip; exact lk_hd; kernel_rfl!; exact ev_int; apply At.tup; exact Nth.n1)
    intros
    (with_reducible kernel_rfl!; apply evs_cons; apply ev_at; apply ev_var; apply lk_tl; kernel_rfl!; apply lk_zip; exact lk_hd; kernel_rfl!; exact ev_int; apply At.tup; exact Nth.n2)
    intros
    (with_reducible kernel_rfl!; exact evs_nil)
    intros
    kernel_rfl!
    intros
    (with_reducible kernel_rfl!; exact c_rat (by assumption) _)
    exact leT (by kernel_rfl!); intros
    (with_reducible kernel_rfl!; exact evs_nil)
    intros
    (with_reducible kernel_rfl!; exact c_nterm (by assumption) _)
    exact leT (by kernel_rfl!); intros
    (with_reducible kernel_rfl!; exact xk_ret; exact xk_ret)
  · rfl

theorem c_own_num (F : Fa W) (x : Int) : CallOK W 1 (Str.ofString "has_own_letter") [Nm x] (.bool false) := by
  refine call_ok' (k := 76) (ps := [Str.ofString "t"]) (d' := ?d) rfl (by decide) rfl rfl (by kernel_rfl!) (fun _ _ _ => len1 fun _ => by kernel_rfl!) ?_ ?_
  rotate_left
  · conv => arg 5; whnf
    (with_reducible apply xs_seq; apply x1_return; apply ev_bool; apply bos_and; apply ev_cmp; apply ev_at; apply ev_var; apply lk_zip; exact lk_hd; kernel_rfl!; exact ev_int; apply At.tup; exact Nth.n0)
    intros
    (with_reducible kernel_rfl!; exact ev_str; apply op_eqS)
    exact isF (by kernel_rfl!)
    (with_reducible kernel_rfl!; exact arb_f; exact xk_ret)
  · rfl

theorem c_root_num (F : Fa W) (x : Int) : CallOK W 1 (Str.ofString "has_root_letter") [Nm x] (.bool false) := by
  refine call_ok' (k := 77) (ps := [Str.ofString "t"]) (d' := ?d) rfl (by decide) rfl rfl (by kernel_rfl!) (fun _ _ _ => len1 fun _ => by kernel_rfl!) ?_ ?_
  rotate_left
  · conv => arg 5; whnf
    (with_reducible apply xs_seq; apply x1_return; apply ev_bool; apply bos_and; apply ev_cmp; apply ev_at; apply ev_var; apply lk_zip; exact lk_hd; kernel_rfl!; exact ev_int; apply At.tup; exact Nth.n0)
    intros
    (with_reducible kernel_rfl!; exact ev_str; apply op_eqS)
    exact isF (by kernel_rfl!)
    (with_reducible kernel_rfl!; exact arb_f; exact xk_ret)
  · rfl

theorem c_own_sum (F : Fa W) (q : D) : CallOK W 1 (Str.ofString "has_own_letter") [.tup [.str (Str.ofString "sum"), q]] (.bool false) := by
  refine call_ok' (k := 76) (ps := [Str.ofString "t"]) (d' := ?d) rfl (by decide) rfl rfl (by kernel_rfl!) (fun _ _ _ => len1 fun _ => by kernel_rfl!) ?_ ?_
  rotate_left
  · conv => arg 5; whnf
    (with_reducible apply xs_seq; apply x1_return; apply ev_bool; apply bos_and; apply ev_cmp; apply ev_at; apply ev_var; apply lk_zip; exact lk_hd; kernel_rfl!; exact ev_int; apply At.tup; exact Nth.n0)
    intros
    (with_reducible kernel_rfl!; exact ev_str; apply op_eqS)
    exact isF (by kernel_rfl!)
    (with_reducible kernel_rfl!; exact arb_f; exact xk_ret)
  · rfl

theorem c_root_sum (F : Fa W) (q : D) : CallOK W 1 (Str.ofString "has_root_letter") [.tup [.str (Str.ofString "sum"), q]] (.bool false) := by
  refine call_ok' (k := 77) (ps := [Str.ofString "t"]) (d' := ?d) rfl (by decide) rfl rfl (by kernel_rfl!) (fun _ _ _ => len1 fun _ => by kernel_rfl!) ?_ ?_
  rotate_left
  · conv => arg 5; whnf
    (with_reducible apply xs_seq; apply x1_return; apply ev_bool; apply bos_and; apply ev_cmp; apply ev_at; apply ev_var; apply lk_zip; exact lk_hd; kernel_rfl!; exact ev_int; apply At.tup; exact Nth.n0)
    intros
    (with_reducible kernel_rfl!; exact ev_str; apply op_eqS)
    exact isF (by kernel_rfl!)
    (with_reducible kernel_rfl!; exact arb_f; exact xk_ret)
  · rfl

theorem c_own_prod (F : Fa W) (q : D) : CallOK W 1 (Str.ofString "has_own_letter") [.tup [.str (Str.ofString "prod"), q]] (.bool false) := by
  refine call_ok' (k := 76) (ps := [Str.ofString "t"]) (d' := ?d) rfl (by decide) rfl rfl (by kernel_rfl!) (fun _ _ _ => len1 fun _ => by kernel_rfl!) ?_ ?_
  rotate_left
  · conv => arg 5; whnf
    (with_reducible apply xs_seq; apply x1_return; apply ev_bool; apply bos_and; apply ev_cmp; apply ev_at; apply ev_var; apply lk_zip; exact lk_hd; kernel_rfl!; exact ev_int; apply At.tup; exact Nth.n0)
    intros
    (with_reducible kernel_rfl!; exact ev_str; apply op_eqS)
    exact isF (by kernel_rfl!)
    (with_reducible kernel_rfl!; exact arb_f; exact xk_ret)
  · rfl

theorem c_root_prod (F : Fa W) (q : D) : CallOK W 1 (Str.ofString "has_root_letter") [.tup [.str (Str.ofString "prod"), q]] (.bool false) := by
  refine call_ok' (k := 77) (ps := [Str.ofString "t"]) (d' := ?d) rfl (by decide) rfl rfl (by kernel_rfl!) (fun _ _ _ => len1 fun _ => by kernel_rfl!) ?_ ?_
  rotate_left
  · conv => arg 5; whnf
    (with_reducible apply xs_seq; apply x1_return; apply ev_bool; apply bos_and; apply ev_cmp; apply ev_at; apply ev_var; apply lk_zip; exact lk_hd; kernel_rfl!; exact ev_int; apply At.tup; exact Nth.n0)
    intros
    (with_reducible kernel_rfl!; exact ev_str; apply op_eqS)
    exact isF (by kernel_rfl!)
    (with_reducible kernel_rfl!; exact arb_f; exact xk_ret)
  · rfl

theorem c_own_call (F : Fa W) (q : D) : CallOK W 1 (Str.ofString "has_own_letter") [.tup [.str (Str.ofString "call"), .str (Str.ofString "factorial"), q]] (.bool false) := by
  refine call_ok' (k := 76) (ps := [Str.ofString "t"]) (d' := ?d) rfl (by decide) rfl rfl (by kernel_rfl!) (fun _ _ _ => len1 fun _ => by kernel_rfl!) ?_ ?_
  rotate_left
  · conv => arg 5; whnf
    (with_reducible apply xs_seq; apply x1_return; apply ev_bool; apply bos_and; apply ev_cmp; apply ev_at; apply ev_var; apply lk_zip; exact lk_hd; kernel_rfl!; exact ev_int; apply At.tup; exact Nth.n0)
    intros
    (with_reducible kernel_rfl!; exact ev_str; apply op_eqS)
    exact isT (by kernel_rfl!)
    (with_reducible kernel_rfl!; apply arb_t; apply bos_and; apply ev_cmp; apply ev_at; apply ev_var; apply lk_zip; exact lk_hd; kernel_rfl!; exact ev_int; apply At.tup; exact Nth.n1)
    intros
    (with_reducible kernel_rfl!; exact ev_str; apply op_eqS)
    exact isF (by kernel_rfl!)
    (with_reducible kernel_rfl!; exact arb_f; exact xk_ret)
  · rfl

theorem c_root_call (F : Fa W) (q : D) : CallOK W 1 (Str.ofString "has_root_letter") [.tup [.str (Str.ofString "call"), .str (Str.ofString "factorial"), q]] (.bool false) := by
  refine call_ok' (k := 77) (ps := [Str.ofString "t"]) (d' := ?d) rfl (by decide) rfl rfl (by kernel_rfl!) (fun _ _ _ => len1 fun _ => by kernel_rfl!) ?_ ?_
  rotate_left
  · conv => arg 5; whnf
    (with_reducible apply xs_seq; apply x1_return; apply ev_bool; apply bos_and; apply ev_cmp; apply ev_at; apply ev_var; apply lk_zip; exact lk_hd; kernel_rfl!; exact ev_int; apply At.tup; exact Nth.n0)
    intros
    (with_reducible kernel_rfl!; exact ev_str; apply op_eqS)
    exact isT (by kernel_rfl!)
    (with_reducible kernel_rfl!; apply arb_t; apply bos_and; apply ev_cmp; apply ev_at; apply ev_var; apply lk_zip; exact lk_hd; kernel_rfl!; exact ev_int; apply At.tup; exact Nth.n1)
    intros
    (with_reducible kernel_rfl!; exact ev_str; apply op_eqS)
    exact isF (by kernel_rfl!)
    (with_reducible kernel_rfl!; exact arb_f; exact xk_ret)
  · rfl

theorem push_keep {h : Heap} {o : Obj} : Keep h (h.push o) := fun _ _ e => Heap.get?_push_of_some _ e

theorem c_flat (Fa0 : Fa W) (ds : List D) (kind : Str) (hz : ds.length ≤ 100) (hd : ∀ d ∈ ds, ∃ k r, d = .tup (.str k :: r) ∧ (k == kind) = false) : CallOK W 1 (Str.ofString "flat_parts") [.lst ds, .str kind] (.lst ds) := by
  refine ⟨⟨56, by decide, rfl, rfl⟩, fun A X s a vs Q E ha cx rs h => ?_⟩
  refine call_enter (k := 56) (ps := [Str.ofString "parts", Str.ofString "kind"]) (b := 0) (by decide) rfl rfl (okFn_is (by kernel_rfl!)) (fun _ _ _ => len2 fun _ _ => by kernel_rfl!) ha cx rs fun env h₁ tk e fr nL k1 => ?_
  generalize (fun (e : Value) (s' : Shared) => wpAny (model W.prog W.w) (A.deeper env) (leaving env e) (fun _ s'' => E e s'') (fun e' s'' => E e' s'') s') = E1
  have ek : env.scope.kind = .function := by rw [e.scope]; exact e.kind
  conv => arg 3; arg 1; whnf
  refine wpAny_execs_cons (wpAny_Assign_Name (hs := rfl) (wpAny_List (wpAny_items_nil ⟨Nat.zero_le _, ?_⟩)))
  have n2 : h₁.get? h₁.objs.size = none := none_of_size _
  have k2 : Keep h₁ (h₁.push { cls := .type "list", data := .seq ([] : List Value).toArray }) := push_keep
  have FX := e.fresh n2
  have FL : h₁.objs.size ≠ env.locals := fun q => FX (q ▸ e.inX)
  have e2 := e.more k2 n2 ⟨_, Heap.get?_push_size _ rfl⟩
  refine store_ok e2 (.adr h₁.objs.size) (by kernel_rfl!) fun h₃ t₃ c₃ e₃ => ?_
  have p3 : h₃.PlainList h₁.objs.size #[] := ⟨_, c₃ _ _ (by simpa using FL) (Heap.get?_push_size _ rfl)⟩
  have nS : s.heap.get? h₁.objs.size = none := by
    cases z : s.heap.get? h₁.objs.size with
    | none => rfl
    | some o => have := k1 _ _ z; rw [n2] at this; cases this
  refine wpAny_execs_cons (for_inv (c := .lst ds) (ds := ds) (F := h₁.objs.size) (K := fun Z i h => ∃ items, h.PlainList h₁.objs.size items ∧ RVs W (G Z h) items.toList (ds.take i))
    (ev_var (by kernel_rfl!) (by kernel_rfl!)) itr_lst (by kernel_rfl!) (fun _ _ => rfl)
    (fun Z Z' i h h' ⟨items, p, r⟩ k kF => ⟨items, p.at kF, r.keep k⟩) e₃ (by simp) FL ⟨#[], p3, .nil⟩
    (fun i d hid Z s Q E e fz ⟨items, p, r⟩ hQ => ?_) fun h₄ t₄ c₄ e₄ ⟨items, p, r⟩ => ?_)
  · obtain ⟨k, r0, rfl, hk⟩ := hd d (List.mem_of_getElem? hid)
    have hlt : i < ds.length := by rcases Nat.lt_or_ge i ds.length with q | q; exact q; rw [List.getElem?_eq_none q] at hid; cases hid
    refine wpAny_execs_cons (wpAny_Expr (hi := by unfold interactive; rw [ek]; rfl) (hs := rfl) ?_)
    refine MethodCall_ ((ev_var (W := W) (b := 0) (sc := scopeS (stm 56)) (x := Str.ofString "found") (d := .adr h₁.objs.size) (by kernel_rfl!) (by kernel_rfl!)).go _ env Z _ _ _ e fun u h₀ t₀ k₀ r₀ => ?_)
    cases r₀
    have p := p.at fun o ho => k₀ _ _ ho
    have r := r.keep (g_keep k₀)
    have e := e.keep k₀
    refine getMethod_list_of F.slot_list_extend F.type_list_extend p.isList (let ⟨n, q⟩ := p; ⟨_, q, rfl⟩) ?_
    refine callWith_method1 ((evs_cons (d := .lst [.tup (.str k :: r0)]) (ds := []) (W := W) (b := 0) (sc := scopeS (stm 56)) (σ := (Str.ofString "part", .tup (.str k :: r0)) :: (Str.ofString "found", .adr h₁.objs.size) :: [Str.ofString "parts", Str.ofString "kind"].zip [.lst ds, .str kind]) ?_ evs_nil (fun _ => rfl)).go _ env Z _ _ _ _ e fun vs h₅ t₅ k₅ r₅ => ?_)
    · (with_reducible apply ev_if; apply ts_cmp; apply ev_at; apply ev_var; exact lk_hd; kernel_rfl!; exact ev_int; apply At.tup; exact Nth.n0)
      intros
      (with_reducible kernel_rfl!; apply ev_var; apply lk_tl; kernel_rfl!; apply lk_tl; kernel_rfl!; apply lk_zip; apply lk_tl; kernel_rfl!; apply lk_zip; exact lk_hd; kernel_rfl!; apply op_eqS; assumption; kernel_rfl!; apply are_f; apply ev_lst; apply evs_cons; apply ev_var; exact lk_hd; kernel_rfl!; exact evs_nil)
      intros
      kernel_rfl!
      exact leT (by kernel_rfl!)
    · cases r₅ with
      | cons r6 r7 =>
        cases r7
        cases r6 with
        | @lst b vs2 _ q6 rs6 =>
          obtain ⟨n6, q6'⟩ := q6.keep g_sub
          obtain ⟨n, p5⟩ := p.at fun o ho => k₅ _ _ ho
          have hsz : items.size + vs2.toArray.size ≤ sizeLine := by
            have h1 : items.size ≤ ds.length := by have := r.length; simp at this; omega
            have h2 : vs2.length = 1 := rs6.length
            have h3 : vs2.toArray.size = 1 := by simpa using h2
            rw [sizeLine_is]; omega
          refine call_meets F.slot_list_extend ⟨_, p5, rfl⟩ F.entry_list_extend (F.args_list_extend_2 _ _) (AutoSeq1.list_extend_list_list_0 _ items n b vs2.toArray n6 (extend_door hsz) (Nat.le_trans (Nat.le_add_right _ _) hsz)) ⟨p5, q6', ?_⟩
          refine wpAny_execs_nil ?_
          have c6 : Chg [h₁.objs.size] h₅ (h₅.update h₁.objs.size (Obj.mapSeq fun x => x ++ vs2.toArray)) := fun b o hb eb => (Heap.get?_update_other _ _ (fun q => hb (by simp [q]))).trans eb
          have o6 := Heap.get?_update_self (Obj.mapSeq fun x => x ++ vs2.toArray) p5 rfl
          refine hQ _ t₅ ?_ ?_ ⟨items ++ vs2.toArray, ⟨_, o6⟩, ?_⟩
          · exact ((k₀.trans k₅).chg.trans (c6.mono fun y q => by simp at q; simp [q]))
          · exact ((e.keep k₅).pop (by kernel_rfl!)).turn c6 fz FL ⟨_, o6⟩
          · have cZ : Chg Z h₅ (h₅.update h₁.objs.size (Obj.mapSeq fun x => x ++ vs2.toArray)) := c6.mono fun y q => by simp at q; subst q; exact fz
            rw [Array.toList_append, List.take_add_one, hid]
            exact ((r.keep (g_keep k₅)).keep (g_chg cZ)).append (rs6.keep (g_chg cZ))
  · refine wpAny_execs_cons (wpAny_Return_some ((ev_var (W := W) (b := 0) (sc := scopeS (stm 56)) (x := Str.ofString "found") (d := .adr h₁.objs.size) (by kernel_rfl!) (by kernel_rfl!)).go _ env _ _ _ _ e₄ fun u h₀ t₀ k₀ r₀ => ?_))
    cases r₀
    have p := p.at fun o ho => k₀ _ _ ho
    have r := r.keep (g_keep k₀)
    rw [List.take_length] at r
    obtain ⟨n, p⟩ := p
    have sx : h₁.objs.size ∉ X := cx.fresh nS
    refine h _ h₀ t₀ (fun b o eb => k₀ _ _ (c₄ b o (fun q => ?_) (c₃ b o (fun q => ?_) (k2 _ _ (k1 _ _ eb))))) (.lst (vs := items.toList) ⟨n, g_get p sx⟩ (r.keep fun b o eb => ?_))
    · simp at q
      rcases q with q | q <;> subst q
      · rw [nS] at eb; cases eb
      · rw [nL] at eb; cases eb
    · simp at q; subst q; rw [nL] at eb; cases eb
    · have q := g_not eb
      simp only [List.mem_cons, not_or] at q
      exact g_get (g_sub _ _ eb) q.2.2
abbrev Sg (xs : List Int) (i : Nat) : Int := (xs.take i).foldl (· + ·) 0
theorem sg_succ {xs : List Int} {i : Nat} {x : Int} (h : xs[i]? = some x) : Sg xs (i + 1) = Sg xs i + x := by
  unfold Sg
  rw [List.take_add_one, h, List.foldl_append]
  rfl

def CntK (W : Wd) (F : Addr) (xs : List Int) (Z : List Addr) (i : Nat) (h : Heap) : Prop :=
  (i = 0 → h.DictOfH (tk W) F []) ∧ (0 < i → ∃ a v, h.DictOfH (tk W) F [(oneK, a, v)] ∧ RV W (G Z h) (.ref a) (Nm 1) ∧ RV W (G Z h) v (.tup [.int (Sg xs i), .int 1]))
theorem cntK_keep {F : Addr} {xs : List Int} (Z Z' : List Addr) (i : Nat) (h h' : Heap) (k : CntK W F xs Z i h) (g : Keep (G Z h) (G Z' h')) (kF : ∀ o, h.get? F = some o → h'.get? F = some o) : CntK W F xs Z' i h' := by
  refine ⟨fun q => dictH_keep0 (k.1 q) kF, fun q => ?_⟩
  obtain ⟨a, v, k1, k2, k3⟩ := k.2 q
  exact ⟨a, v, dictH_keep k1 kF (one_key ((k2.keep g).keep g_sub)), k2.keep g, k3.keep g⟩


theorem xs_to {b : Nat} {sc : Scope} {σ : Env} {ss : List Stmt} {d d' : D} (h : Xs W b sc σ ss (.ret d')) (e : d' = d) : Xs W b sc σ ss (.ret d) := e ▸ h

theorem gsum_tail (Fa0 : Fa W) (S : Int) (p : D) : Xs W 3 (scopeS (stm 57)) ((Str.ofString "number", .tup [.int S, .int 1]) :: (Str.ofString "counts", .emp) :: [Str.ofString "parts"].zip [p]) (List.drop 3 (bodyS (stm 57))) (.ret (Nm S)) := by
  by_cases hS : S = 0
  · have b0 : (S != 0) = false := bneF hS
    refine xs_to (d' := ?d) ?_ ?_
    rotate_left
    · conv => arg 5; whnf
      (with_reducible apply xs_seq; apply x1_lc0 (x := Str.ofString "rest"); apply ev_met0; apply ev_var; apply lk_tl; kernel_rfl!; exact lk_hd; kernel_rfl!; exact met_items)
      intro env; exact ⟨_, rfl⟩; exact cap0 (by kernel_rfl!)
      kernel_rfl!
      intros
      (with_reducible kernel_rfl!; kernel_rfl!)
      intro env h; cases env; subst h
      (with_reducible kernel_rfl!; apply xk_nxt; apply xs_seq; apply x1_if; apply ts_cmp; apply ev_call_bi; exact bi_len (by assumption); kernel_rfl!; kernel_rfl!; apply evs_cons; apply ev_lc; apply ev_var; exact lk_hd; kernel_rfl!; exact itr_lst)
      exact cap0 (by kernel_rfl!)
      kernel_rfl!
      exact leT (by kernel_rfl!); intros
      (with_reducible kernel_rfl!; exact Cp.nil; exact evs_nil)
      intros
      (with_reducible kernel_rfl!; apply cv_lenL; exact Len.l0)
      intros
      kernel_rfl!
      intros
      (with_reducible kernel_rfl!; exact ev_int; apply op_gtI)
      exact isF (by kernel_rfl!)
      (with_reducible kernel_rfl!; apply ar_f; exact xs_nil; apply xk_nxt; apply xs_seq; apply x1_assign; apply ev_bin; apply ev_call; kernel_rfl!; kernel_rfl!; apply evs_cons; apply ev_var; exact lk_hd; kernel_rfl!; exact evs_nil)
      intros
      (with_reducible kernel_rfl!; exact c_sort0 (by assumption))
      exact leT (by kernel_rfl!); intros
      (with_reducible kernel_rfl!; apply ev_if; apply ts_cmp; apply ev_at; apply ev_var; apply lk_tl; kernel_rfl!; exact lk_hd; kernel_rfl!; exact ev_int; apply At.tup; exact Nth.n0)
      intros
      (with_reducible kernel_rfl!; exact ev_int; apply op_neI; assumption; kernel_rfl!; apply are_f; apply ev_lst; exact evs_nil)
      exact leT (by kernel_rfl!)
      (with_reducible apply op_app; exact App.nil)
      exact leT (by kernel_rfl!); exact leT (by kernel_rfl!)
      kernel_rfl!
      intros
      (with_reducible kernel_rfl!; apply xk_nxt; apply xs_seq; apply x1_if; apply ts_cmp; apply ev_call_bi; exact bi_len (by assumption); kernel_rfl!; kernel_rfl!; apply evs_cons; apply ev_var; exact lk_hd; kernel_rfl!; exact evs_nil)
      intros
      (with_reducible kernel_rfl!; apply cv_lenL; exact Len.l0)
      intros
      kernel_rfl!
      intros
      (with_reducible kernel_rfl!; exact ev_int; apply op_eqI)
      exact isT (by kernel_rfl!)
      (with_reducible kernel_rfl!; apply ar_t; apply xs_seq; apply x1_return; apply ev_con; exact Fa.zero (by assumption); kernel_rfl!; kernel_rfl!; exact xk_ret; exact xk_ret)
    · rw [hS]
  · have b0 : (S != 0) = true := bneT hS
    refine xs_to (d' := ?d2) ?_ ?_
    rotate_left
    · conv => arg 5; whnf
      (with_reducible apply xs_seq; apply x1_lc0 (x := Str.ofString "rest"); apply ev_met0; apply ev_var; apply lk_tl; kernel_rfl!; exact lk_hd; kernel_rfl!; exact met_items)
      intro env; exact ⟨_, rfl⟩; exact cap0 (by kernel_rfl!)
      kernel_rfl!
      intros
      (with_reducible kernel_rfl!; kernel_rfl!)
      intro env h; cases env; subst h
      (with_reducible kernel_rfl!; apply xk_nxt; apply xs_seq; apply x1_if; apply ts_cmp; apply ev_call_bi; exact bi_len (by assumption); kernel_rfl!; kernel_rfl!; apply evs_cons; apply ev_lc; apply ev_var; exact lk_hd; kernel_rfl!; exact itr_lst)
      exact cap0 (by kernel_rfl!)
      kernel_rfl!
      exact leT (by kernel_rfl!); intros
      (with_reducible kernel_rfl!; exact Cp.nil; exact evs_nil)
      intros
      (with_reducible kernel_rfl!; apply cv_lenL; exact Len.l0)
      intros
      kernel_rfl!
      intros
      (with_reducible kernel_rfl!; exact ev_int; apply op_gtI)
      exact isF (by kernel_rfl!)
      (with_reducible kernel_rfl!; apply ar_f; exact xs_nil; apply xk_nxt; apply xs_seq; apply x1_assign; apply ev_bin; apply ev_call; kernel_rfl!; kernel_rfl!; apply evs_cons; apply ev_var; exact lk_hd; kernel_rfl!; exact evs_nil)
      intros
      (with_reducible kernel_rfl!; exact c_sort0 (by assumption))
      exact leT (by kernel_rfl!); intros
      (with_reducible kernel_rfl!; apply ev_if; apply ts_cmp; apply ev_at; apply ev_var; apply lk_tl; kernel_rfl!; exact lk_hd; kernel_rfl!; exact ev_int; apply At.tup; exact Nth.n0)
      intros
      (with_reducible kernel_rfl!; exact ev_int; apply op_neI; assumption; kernel_rfl!; apply are_t; apply ev_lst; apply evs_cons; apply ev_call; kernel_rfl!; kernel_rfl!; apply evs_cons; apply ev_var; apply lk_tl; kernel_rfl!; exact lk_hd; kernel_rfl!; exact evs_nil)
      intros
      (with_reducible kernel_rfl!; exact c_nterm (by assumption) _)
      exact leT (by kernel_rfl!); intros
      (with_reducible kernel_rfl!; exact evs_nil)
      intros
      kernel_rfl!
      exact leT (by kernel_rfl!)
      (with_reducible apply op_app; exact App.nil)
      exact leT (by kernel_rfl!); exact leT (by kernel_rfl!)
      kernel_rfl!
      intros
      (with_reducible kernel_rfl!; apply xk_nxt; apply xs_seq; apply x1_if; apply ts_cmp; apply ev_call_bi; exact bi_len (by assumption); kernel_rfl!; kernel_rfl!; apply evs_cons; apply ev_var; exact lk_hd; kernel_rfl!; exact evs_nil)
      intros
      (with_reducible kernel_rfl!; apply cv_lenL; exact Len.l1)
      intros
      kernel_rfl!
      intros
      (with_reducible kernel_rfl!; exact ev_int; apply op_eqI)
      exact isF (by kernel_rfl!)
      (with_reducible kernel_rfl!; apply ar_f; exact xs_nil; apply xk_nxt; apply xs_seq; apply x1_return; apply ev_if; apply ts_cmp; apply ev_call_bi; exact bi_len (by assumption); kernel_rfl!; kernel_rfl!; apply evs_cons; apply ev_var; exact lk_hd; kernel_rfl!; exact evs_nil)
      intros
      (with_reducible kernel_rfl!; apply cv_lenL; exact Len.l1)
      intros
      kernel_rfl!
      intros
      (with_reducible kernel_rfl!; exact ev_int; apply op_eqI)
      exact isT (by kernel_rfl!)
      (with_reducible kernel_rfl!; apply are_t; apply ev_at; apply ev_var; exact lk_hd; kernel_rfl!; exact ev_int; apply At.lst; exact Nth.n0)
      intros
      (with_reducible kernel_rfl!; exact xk_ret)
    · rfl

theorem cnt_old {F : Addr} {xs : List Int} {Z : List Addr} {i : Nat} {h : Heap} {z : Value} (k : CntK W F xs Z i h) (rz : RV W (G Z h) z (.tup [.int 0, .int 1])) : ∃ ys, h.DictOfH (tk W) F ys ∧ ys.length ≤ 1 ∧ RV W (G Z h) (((atKey ys oneK).map (·.2)).getD z) (.tup [.int (Sg xs i), .int 1]) ∧
    ∀ a' vn, ∃ a'', storedH ys oneK a' vn = [(oneK, a'', vn)] ∧ (a'' = a' ∨ RV W (G Z h) (.ref a'') (Nm 1)) := by
  rcases Nat.eq_zero_or_pos i with rfl | hi
  · exact ⟨[], k.1 rfl, Nat.zero_le _, rz, fun a' vn => ⟨a', rfl, .inl rfl⟩⟩
  · obtain ⟨a, v, k1, k2, k3⟩ := k.2 hi
    refine ⟨_, k1, Nat.le_refl _, ?_, fun a' vn => ⟨a, ?_, .inr k2⟩⟩
    · have : atKey [(oneK, a, v)] oneK = some (a, v) := by simp [atKey]
      rw [this]; exact k3
    · have : atKey [(oneK, a, v)] oneK = some (a, v) := by simp [atKey]
      rw [storedH_old this]; simp [putAt]

set_option maxHeartbeats 1000000 in
theorem c_gsum (Fa0 : Fa W) (xs : List Int) (hz : xs.length ≤ 50) (hne : 0 < xs.length) : CallOK W 4 (Str.ofString "gathered_sum") [.lst (xs.map Nm)] (Nm (Sg xs xs.length)) := by
  have hf := c_flat Fa0 (xs.map Nm) (Str.ofString "sum") (by simp; omega) (fun d hd => by
    obtain ⟨x, _, rfl⟩ := List.mem_map.mp hd
    exact ⟨_, _, rfl, by kernel_rfl!⟩)
  refine ⟨⟨57, by decide, rfl, rfl⟩, fun A X s a vs Q E ha cx rs h => ?_⟩
  refine call_enter (k := 57) (ps := [Str.ofString "parts"]) (b := 3) (by decide) rfl rfl (okFn_is (by kernel_rfl!)) (fun _ _ _ => len1 fun _ => by kernel_rfl!) ha cx rs fun env h₁ tk₁ e fr nL k1 => ?_
  generalize (fun (e : Value) (s' : Shared) => wpAny (model W.prog W.w) (A.deeper env) (leaving env e) (fun _ s'' => E e s'') (fun e' s'' => E e' s'') s') = E1
  conv => arg 3; arg 1; whnf
  refine wpAny_execs_cons (wpAny_Assign_Name (hs := rfl) (wpAny_Dict_empty ?_))
  have n2 : h₁.get? h₁.objs.size = none := none_of_size _
  have k2 : Keep h₁ (h₁.push { cls := .type "dict", data := .dict #[] }) := push_keep
  have FX := e.fresh n2
  have nm := nomod_size e.cx
  have FL : h₁.objs.size ≠ env.locals := fun q => FX (q ▸ e.inX)
  have e2 := e.more k2 n2 ⟨_, Heap.get?_push_size _ rfl⟩
  have d2 : (h₁.push { cls := .type "dict", data := .dict #[] }).DictOfH (tk W) h₁.objs.size [] := Heap.DictOfH.new _
  refine store_ok e2 (.adr h₁.objs.size) (by kernel_rfl!) fun h₃ t₃ c₃ e₃ => ?_
  have d3 : h₃.DictOfH (tk W) h₁.objs.size [] := dictH_keep0 d2 fun o ho => c₃ _ _ (by simpa using FL) ho
  have nS : s.heap.get? h₁.objs.size = none := by
    cases z : s.heap.get? h₁.objs.size with
    | none => rfl
    | some o => have := k1 _ _ z; rw [n2] at this; cases this
  refine wpAny_execs_cons (for_inv (c := .lst (xs.map Nm)) (ds := xs.map Nm) (F := h₁.objs.size) (K := CntK W h₁.objs.size xs)
    ?_ itr_lst (by kernel_rfl!) (fun _ _ => rfl) (fun Z Z' i h h' => cntK_keep Z Z' i h h') e₃ (by simp) FL ⟨fun _ => d3, fun q => absurd q (by omega)⟩
    (fun i d hid Z s Q E e fz kc hQ => ?_) fun h₄ t₄ c₄ e₄ kc => ?_)
  · (with_reducible apply ev_call; kernel_rfl!; kernel_rfl!; apply evs_cons; apply ev_var; apply lk_tl; kernel_rfl!; apply lk_zip; exact lk_hd; kernel_rfl!; apply evs_cons; exact ev_str; exact evs_nil)
    intros
    kernel_rfl!
    intros
    (with_reducible kernel_rfl!; assumption)
    exact leT (by kernel_rfl!); intros
    kernel_rfl!
  · obtain ⟨x, hx, rfl⟩ : ∃ x, xs[i]? = some x ∧ d = Nm x := by
      rw [List.getElem?_map] at hid
      obtain ⟨x, h1, h2⟩ := Option.map_eq_some_iff.mp hid
      exact ⟨x, h1, h2.symm⟩
    have uu := e.room.units1
    refine wpAny_execs_cons (X1.go (W := W) (b := 3) (sc := scopeS (stm 57)) (σ := (Str.ofString "part", Nm x) :: (Str.ofString "counts", .adr h₁.objs.size) :: [Str.ofString "parts"].zip [.lst (xs.map Nm)]) (o := .nxt ((Str.ofString "rest", Nm 1) :: (Str.ofString "r", .tup [.int x, .int 1]) :: (Str.ofString "part", Nm x) :: (Str.ofString "counts", .adr h₁.objs.size) :: [Str.ofString "parts"].zip [.lst (xs.map Nm)])) ?_ _ env Z _ _ _ e fun f h₅ t₅ c₅ o₅ => ?_)
    · (with_reducible apply x1_un2; apply ev_call; kernel_rfl!; kernel_rfl!; apply evs_cons; apply ev_var; exact lk_hd; kernel_rfl!; exact evs_nil)
      intros
      (with_reducible kernel_rfl!; exact c_nrest (by assumption) _)
      exact leT (by kernel_rfl!); intros
      (with_reducible kernel_rfl!; kernel_rfl!; kernel_rfl!)
      intros
      kernel_rfl!
      intros
      kernel_rfl!
    obtain ⟨rfl, e5⟩ := o₅
    have cZ5 : Chg Z s.heap h₅ := c₅.mono fun y q => by simp at q; subst q; exact e.inX
    have kc5 := cntK_keep _ Z _ _ h₅ kc (g_chg cZ5) fun o ho => c₅ _ _ (by simpa using FL) ho
    refine wpAny_execs_cons (wpAny_Assign_Subscript (hs := rfl) ?_)
    refine call_raw (d := .tup [.int (Sg xs i + x), .int 1]) (c_radd Fa0 (Sg xs i) x) (by kernel_rfl!) (by kernel_rfl!) (by decide) (fun _ => rfl) e5 ?_
    refine wpAny_items_cons (he := rfl) ?_
    refine MethodCall_ ((ev_var (W := W) (b := 3) (sc := scopeS (stm 57)) (x := Str.ofString "counts") (d := .adr h₁.objs.size) (by kernel_rfl!) (by kernel_rfl!)).go _ env Z _ _ _ e5 fun u h₆ t₆ k₆ r₆ => ?_)
    cases r₆
    have kc6 := cntK_keep _ Z _ _ h₆ kc5 (g_keep k₆) fun o ho => k₆ _ _ ho
    obtain ⟨ys6, hD6⟩ : ∃ ys, h₆.DictOfH (tk W) h₁.objs.size ys := by
      rcases Nat.eq_zero_or_pos i with q | q
      · exact ⟨_, kc6.1 q⟩
      · obtain ⟨a, v, q1, _⟩ := kc6.2 q; exact ⟨_, q1⟩
    refine getMethod_builtin (T := "dict") (Heap.DictOfH.typeIs (s := { s with heap := h₆, toks := t₆ }) hD6) F.plainAttrs_dict F.slot_dict_get F.type_dict_get (dictOfH_noDict hD6) ?_
    refine callWith_method1 (Evs.go (W := W) (b := 3) (sc := scopeS (stm 57)) (ds := [Nm 1, .tup [.int 0, .int 1]]) ?_ _ env Z _ _ _ _ (e5.keep k₆) fun vs h₇ t₇ k₇ r₇ => ?_)
    · (with_reducible apply evs_cons; apply ev_var; exact lk_hd; kernel_rfl!; apply evs_cons; apply ev_tup; apply evs_cons; exact ev_int; apply evs_cons; exact ev_int; exact evs_nil)
      intros
      kernel_rfl!
      intros
      kernel_rfl!
      exact leT (by kernel_rfl!)
      with_reducible exact evs_nil
      intros
      kernel_rfl!
      intros
      kernel_rfl!
    cases r₇ with
    | @cons w1 _ _ _ q1 r₇ => cases r₇ with
      | @cons z _ _ _ q2 r₇ =>
        cases r₇
        obtain ⟨a', rfl⟩ := rv_ref q1
        have kc7 := cntK_keep _ Z _ _ h₇ kc6 (g_keep k₇) fun o ho => k₇ _ _ ho
        obtain ⟨ys, hD, hlen, hold, hnew⟩ := cnt_old kc7 q2
        refine call_meetsIn F.slot_dict_get (Heap.DictOfH.typeIs (s := { s with heap := h₇, toks := t₇ }) hD) F.entry_dict_get (F.args_dict_get_3 _ _ _) (meetsH_dict_get_default (tk W) h₁.objs.size a' nm z) ⟨uu, oneK, ys, one_key (q1.keep g_sub), hD, ?_⟩
        refine Evs.go (W := W) (b := 3) (sc := scopeS (stm 57)) (ds := [.tup [.int x, .int 1]]) ?_ _ env Z _ _ _ _ ((e5.keep k₆).keep k₇) fun vs h₈ t₈ k₈ r₈ => ?_
        · (with_reducible apply evs_cons; apply ev_var; apply lk_tl; kernel_rfl!; exact lk_hd; kernel_rfl!; exact evs_nil)
          intros
          kernel_rfl!
        refine ⟨(k₆.trans k₇).trans k₈, .cons (hold.keep (g_keep k₈)) r₈, fun vn h₉ t₉ k₉ r₉ => ?_⟩
        have e9 := (((e5.keep k₆).keep k₇).keep k₈).keep k₉
        refine (ev_var (W := W) (b := 3) (sc := scopeS (stm 57)) (x := Str.ofString "counts") (d := .adr h₁.objs.size) (by kernel_rfl!) (by kernel_rfl!)).go _ env Z _ _ _ e9 fun u ha ta ka ra => ?_
        cases ra
        refine (ev_var (W := W) (b := 3) (sc := scopeS (stm 57)) (x := Str.ofString "rest") (d := Nm 1) (by kernel_rfl!) (by kernel_rfl!)).go _ env Z _ _ _ (e9.keep ka) fun u hb tb kb rb => ?_
        obtain ⟨ab, rfl⟩ := rv_ref rb
        have k7b : Keep h₇ hb := ((k₈.trans k₉).trans ka).trans kb
        have hDb : hb.DictOfH (tk W) h₁.objs.size ys := by
          obtain ⟨o, es, ep, ho, p1, p2, p3, p4, p5⟩ := hD
          refine ⟨o, es, ep, k7b _ _ ho, p1, p2, p3, fun y hy => ?_, p5⟩
          obtain ⟨o', is, n', z1, z2⟩ := p4 y hy
          exact ⟨o', is, n', k7b _ _ z1, z2⟩
        refine wpAny_setItem_heap (knd := tk W) (k := oneK) (xs := ys) (hsz := by rw [sizeLine_is]; omega) uu (one_key (rb.keep g_sub)) hDb fun hc hDc sc => ?_
        obtain ⟨a'', ea, ha''⟩ := hnew ab vn
        rw [ea] at hDc
        refine wpAny_execs_nil ?_
        have cF : Chg [h₁.objs.size] hb hc := fun b o hb' eb => sc.extBut b o (by simpa using hb') eb
        have cZ : Chg Z hb hc := cF.mono fun y q => by simp at q; subst q; exact fz
        have k5b : Keep h₅ hb := (k₆.trans k₇).trans k7b
        refine hQ hc _ ?_ ?_ ⟨fun q => absurd q (by omega), fun _ => ⟨a'', vn, hDc, ?_, ?_⟩⟩
        · exact ((c₅.mono fun y q => by simp at q; simp [q]).trans k5b.chg).trans (cF.mono fun y q => by simp at q; simp [q])
        · have hex : ∃ o, hc.get? h₁.objs.size = some o := let ⟨o, _, _, ho, _⟩ := hDc; ⟨o, ho⟩
          exact ((((e5.keep k5b).pop (by kernel_rfl!)).pop (by kernel_rfl!)).pop (by kernel_rfl!)).turn cF fz FL hex
        · rcases ha'' with rfl | ha''
          · exact rb.keep (g_chg cZ)
          · exact (ha''.keep (g_keep k7b)).keep (g_chg cZ)
        · rw [sg_succ hx]
          exact (((r₉.keep (g_keep ka)).keep (g_keep kb)).keep (g_chg cZ))
  · obtain ⟨a0, v0, kD, kr, kv⟩ := kc.2 (by simpa using hne)
    rw [List.length_map] at kv
    have uu := e₄.room.units1
    refine wpAny_execs_cons (wpAny_Assign_Name (hs := rfl) ?_)
    refine MethodCall_ ((ev_var (W := W) (b := 3) (sc := scopeS (stm 57)) (x := Str.ofString "counts") (d := .adr h₁.objs.size) (by kernel_rfl!) (by kernel_rfl!)).go _ env _ _ _ _ e₄ fun u h₆ t₆ k₆ r₆ => ?_)
    cases r₆
    have hD6 : h₆.DictOfH (tk W) h₁.objs.size [(oneK, a0, v0)] := dictH_keep kD (fun o ho => k₆ _ _ ho) (one_key ((kr.keep (g_keep k₆)).keep g_sub))
    refine getMethod_builtin (T := "dict") (Heap.DictOfH.typeIs (s := { s with heap := h₆, toks := t₆ }) hD6) F.plainAttrs_dict F.slot_dict_pop F.type_dict_pop (dictOfH_noDict hD6) ?_
    refine callWith_method1 (Evs.go (W := W) (b := 3) (sc := scopeS (stm 57)) (ds := [Nm 1, .tup [.int 0, .int 1]]) ?_ _ env _ _ _ _ _ (e₄.keep k₆) fun vs h₇ t₇ k₇ r₇ => ?_)
    · (with_reducible apply evs_cons; apply ev_con; exact Fa.one (by assumption); kernel_rfl!; kernel_rfl!; apply evs_cons; apply ev_tup; apply evs_cons; exact ev_int; apply evs_cons; exact ev_int; exact evs_nil)
      intros
      kernel_rfl!
      intros
      kernel_rfl!
      exact leT (by kernel_rfl!)
      with_reducible exact evs_nil
      intros
      kernel_rfl!
      intros
      kernel_rfl!
    cases r₇ with
    | @cons w1 _ _ _ q1 r₇ => cases r₇ with
      | @cons z _ _ _ q2 r₇ =>
        cases r₇
        obtain ⟨a', rfl⟩ := rv_ref q1
        have hD7 : h₇.DictOfH (tk W) h₁.objs.size [(oneK, a0, v0)] := dictH_keep hD6 (fun o ho => k₇ _ _ ho) (one_key (((kr.keep (g_keep k₆)).keep (g_keep k₇)).keep g_sub))
        refine pop_one (W := W) uu (one_key (q1.keep g_sub)) hD7 fun h₈ t₈ c₈ ⟨ep, hE⟩ => ?_
        have hexF : ∃ o, h₈.get? h₁.objs.size = some o := let ⟨o, _, ho, _⟩ := hE; ⟨o, ho⟩
        have e8 := ((e₄.keep k₆).keep k₇).turn c₈ (.head _) FL hexF
        have cZ8 : Chg (h₁.objs.size :: env.locals :: X) h₇ h₈ := c₈.mono fun y q => by simp at q; simp [q]
        refine store_ok e8 (((kv.keep (g_keep k₆)).keep (g_keep k₇)).keep (g_chg cZ8)) (by kernel_rfl!) fun h₉ t₉ c₉ e9 => ?_
        have hE9 : h₉.DictAt (strKind W.prog W.w) h₁.objs.size [] ep := hE.at fun o ho => c₉ _ _ (by simpa using FL) ho
        have e10 : EnvOK W 3 (scopeS (stm 57)) (A.deeper env) env ((Str.ofString "number", .tup [.int (Sg xs xs.length), .int 1]) :: (Str.ofString "counts", .emp) :: [Str.ofString "parts"].zip [.lst (xs.map Nm)]) (env.locals :: X) h₉ := by
          refine (e9.less (by simp)).swap fun y d q => ?_
          rw [List.lookup_cons] at q ⊢
          cases h1 : y == Str.ofString "number" with
          | true => rw [h1] at q; exact .inl q
          | false =>
            rw [h1] at q
            simp only at q ⊢
            rw [List.lookup_cons] at q ⊢
            cases h2 : y == Str.ofString "counts" with
            | true =>
              rw [h2] at q; cases q
              obtain ⟨o, es, ho, r⟩ := hE9
              exact .inr ⟨_, rfl, .emp nm (ep := ep) ⟨o, es, g_get ho FX, r⟩⟩
            | false => rw [h2] at q; exact .inl q
        refine (gsum_tail Fa0 (Sg xs xs.length) (.lst (xs.map Nm))).go _ env _ _ _ _ e10 fun f h11 t11 c11 o11 => ?_
        obtain ⟨v, rfl, r⟩ := o11
        · refine h v h11 t11 (fun b o eb => ?_) (r.keep g_tail)
          have bL : b ≠ env.locals := fun q => by subst q; rw [nL] at eb; cases eb
          have bF : b ≠ h₁.objs.size := fun q => by subst q; rw [nS] at eb; cases eb
          exact c11 _ _ (by simpa using bL) (c₉ _ _ (by simpa using bL) (c₈ _ _ (by simpa using bF) (k₇ _ _ (k₆ _ _ (c₄ _ _ (by simp [bL, bF]) (c₃ _ _ (by simpa using bL) (k2 _ _ (k1 _ _ eb))))))))
theorem c_gsum2 (F : Fa W) (x y : Int) : CallOK W 4 (Str.ofString "gathered_sum") [.lst [Nm x, Nm y]] (Nm (x + y)) := by
  have h := c_gsum F [x, y] (by simp) (by simp)
  have e : Sg [x, y] [x, y].length = x + y := by simp [Sg]
  rw [e] at h
  exact h

theorem c_flat2 (F : Fa W) (x y : Int) : CallOK W 1 (Str.ofString "flat_parts") [.lst [Nm x, Nm y], .str (Str.ofString "prod")] (.lst [Nm x, Nm y]) :=
  c_flat F [Nm x, Nm y] _ (by simp) fun d hd => by
    simp only [List.mem_cons, List.not_mem_nil, or_false] at hd
    rcases hd with rfl | rfl <;> exact ⟨_, _, rfl, by kernel_rfl!⟩
theorem c_flat3 (F : Fa W) (x y z : Int) : CallOK W 1 (Str.ofString "flat_parts") [.lst [Nm x, Nm y, Nm z], .str (Str.ofString "prod")] (.lst [Nm x, Nm y, Nm z]) :=
  c_flat F [Nm x, Nm y, Nm z] _ (by simp) fun d hd => by
    simp only [List.mem_cons, List.not_mem_nil, or_false] at hd
    rcases hd with rfl | rfl | rfl <;> exact ⟨_, _, rfl, by kernel_rfl!⟩
theorem c_rmul1 (F : Fa W) (y : Int) : CallOK W 3 (Str.ofString "rmul") [.tup [.int 1, .int 1], .tup [.int y, .int 1]] (.tup [.int y, .int 1]) := by
  have h := c_rmul F 1 y (.of_left (by decide))
  rwa [Int.one_mul] at h

theorem c_gprod2 (F : Fa W) (x y : Int) (m : IntMulOk x y) : CallOK W 4 (Str.ofString "gathered_product") [.lst [Nm x, Nm y]] (Nm (x * y)) := by
  by_cases hS : x * y = 0
  · have b0 : (x * y == 0) = true := beqT hS
    refine call_ok' (k := 60) (ps := [Str.ofString "parts"]) (d' := ?d) rfl (by decide) rfl rfl (by kernel_rfl!) (fun _ _ _ => len1 fun _ => by kernel_rfl!) ?_ ?_
    rotate_left
    · conv => arg 5; whnf
      (with_reducible apply xs_seq; apply x1_swap2; apply ev_tup; apply evs_cons; apply ev_tup; apply evs_cons; exact ev_int; apply evs_cons; exact ev_int; exact evs_nil)
      intros
      kernel_rfl!
      intros
      kernel_rfl!
      exact leT (by kernel_rfl!)
      (with_reducible apply evs_cons; exact ev_dict0; exact evs_nil)
      intros
      kernel_rfl!
      intros
      kernel_rfl!
      exact leT (by kernel_rfl!)
      (with_reducible kernel_rfl!; kernel_rfl!)
      intro env h; cases env; subst h
      (with_reducible kernel_rfl!; apply xk_nxt; apply xs_seq; apply x1_for; apply ev_call; kernel_rfl!; kernel_rfl!; apply evs_cons; apply ev_var; apply lk_tl; kernel_rfl!; apply lk_tl; kernel_rfl!; apply lk_zip; exact lk_hd; kernel_rfl!; apply evs_cons; exact ev_str; exact evs_nil)
      intros
      kernel_rfl!
      intros
      (with_reducible kernel_rfl!; exact c_flat2 (by assumption) _ _)
      exact leT (by kernel_rfl!); intros
      (with_reducible kernel_rfl!; exact itr_lst; kernel_rfl!; apply Lp.cons; apply xs_seq; apply x1_if; apply ts_cmp; apply ev_at; apply ev_var; exact lk_hd; kernel_rfl!; exact ev_int; apply At.tup; exact Nth.n0)
      intros
      (with_reducible kernel_rfl!; exact ev_str; apply op_eqS)
      exact isT (by kernel_rfl!)
      (with_reducible kernel_rfl!; apply ar_t; apply xs_seq; apply x1_assign; apply ev_call; kernel_rfl!; kernel_rfl!; apply evs_cons; apply ev_var; apply lk_tl; kernel_rfl!; exact lk_hd; kernel_rfl!; apply evs_cons; apply ev_tup; apply evs_cons; apply ev_at; apply ev_var; exact lk_hd; kernel_rfl!; exact ev_int; apply At.tup; exact Nth.n1)
      intros
      (with_reducible kernel_rfl!; apply evs_cons; apply ev_at; apply ev_var; exact lk_hd; kernel_rfl!; exact ev_int; apply At.tup; exact Nth.n2)
      intros
      (with_reducible kernel_rfl!; exact evs_nil)
      intros
      kernel_rfl!
      intros
      kernel_rfl!
      exact leT (by kernel_rfl!)
      with_reducible exact evs_nil
      intros
      kernel_rfl!
      intros
      (with_reducible kernel_rfl!; exact c_rmul1 (by assumption) _)
      exact leT (by kernel_rfl!); intros
      (with_reducible kernel_rfl!; kernel_rfl!)
      intros
      (with_reducible kernel_rfl!; apply xk_nxt; exact xs_nil; apply xk_nxt; exact xs_nil; apply Lp.cons; apply xs_seq; apply x1_if; apply ts_cmp; apply ev_at; apply ev_var; exact lk_hd; kernel_rfl!; exact ev_int; apply At.tup; exact Nth.n0)
      intros
      (with_reducible kernel_rfl!; exact ev_str; apply op_eqS)
      exact isT (by kernel_rfl!)
      (with_reducible kernel_rfl!; apply ar_t; apply xs_seq; apply x1_assign; apply ev_call; kernel_rfl!; kernel_rfl!; apply evs_cons; apply ev_var; apply lk_tl; kernel_rfl!; exact lk_hd; kernel_rfl!; apply evs_cons; apply ev_tup; apply evs_cons; apply ev_at; apply ev_var; exact lk_hd; kernel_rfl!; exact ev_int; apply At.tup; exact Nth.n1)
      intros
      (with_reducible kernel_rfl!; apply evs_cons; apply ev_at; apply ev_var; exact lk_hd; kernel_rfl!; exact ev_int; apply At.tup; exact Nth.n2)
      intros
      (with_reducible kernel_rfl!; exact evs_nil)
      intros
      kernel_rfl!
      intros
      kernel_rfl!
      exact leT (by kernel_rfl!)
      with_reducible exact evs_nil
      intros
      kernel_rfl!
      intros
      (with_reducible kernel_rfl!; exact c_rmul (by assumption) _ _ (by assumption))
      exact leT (by kernel_rfl!); intros
      (with_reducible kernel_rfl!; kernel_rfl!)
      intros
      (with_reducible kernel_rfl!; apply xk_nxt; exact xs_nil; apply xk_nxt; exact xs_nil; exact Lp.nil)
      intros
      (with_reducible kernel_rfl!; apply xk_nxt; apply xs_seq; apply x1_if; apply ts_cmp; apply ev_at; apply ev_var; exact lk_hd; kernel_rfl!; exact ev_int; apply At.tup; exact Nth.n0)
      intros
      (with_reducible kernel_rfl!; exact ev_int; apply op_eqI; assumption; kernel_rfl!; apply ar_t; apply xs_seq; apply x1_return; apply ev_con; exact Fa.zero (by assumption); kernel_rfl!; kernel_rfl!; exact xk_ret; exact xk_ret)
    · rw [hS]
  · have b0 : (x * y == 0) = false := beqF hS
    refine call_ok' (k := 60) (ps := [Str.ofString "parts"]) (d' := ?d2) rfl (by decide) rfl rfl (by kernel_rfl!) (fun _ _ _ => len1 fun _ => by kernel_rfl!) ?_ ?_
    rotate_left
    · conv => arg 5; whnf
      (with_reducible apply xs_seq; apply x1_swap2; apply ev_tup; apply evs_cons; apply ev_tup; apply evs_cons; exact ev_int; apply evs_cons; exact ev_int; exact evs_nil)
      intros
      kernel_rfl!
      intros
      kernel_rfl!
      exact leT (by kernel_rfl!)
      (with_reducible apply evs_cons; exact ev_dict0; exact evs_nil)
      intros
      kernel_rfl!
      intros
      kernel_rfl!
      exact leT (by kernel_rfl!)
      (with_reducible kernel_rfl!; kernel_rfl!)
      intro env h; cases env; subst h
      (with_reducible kernel_rfl!; apply xk_nxt; apply xs_seq; apply x1_for; apply ev_call; kernel_rfl!; kernel_rfl!; apply evs_cons; apply ev_var; apply lk_tl; kernel_rfl!; apply lk_tl; kernel_rfl!; apply lk_zip; exact lk_hd; kernel_rfl!; apply evs_cons; exact ev_str; exact evs_nil)
      intros
      kernel_rfl!
      intros
      (with_reducible kernel_rfl!; exact c_flat2 (by assumption) _ _)
      exact leT (by kernel_rfl!); intros
      (with_reducible kernel_rfl!; exact itr_lst; kernel_rfl!; apply Lp.cons; apply xs_seq; apply x1_if; apply ts_cmp; apply ev_at; apply ev_var; exact lk_hd; kernel_rfl!; exact ev_int; apply At.tup; exact Nth.n0)
      intros
      (with_reducible kernel_rfl!; exact ev_str; apply op_eqS)
      exact isT (by kernel_rfl!)
      (with_reducible kernel_rfl!; apply ar_t; apply xs_seq; apply x1_assign; apply ev_call; kernel_rfl!; kernel_rfl!; apply evs_cons; apply ev_var; apply lk_tl; kernel_rfl!; exact lk_hd; kernel_rfl!; apply evs_cons; apply ev_tup; apply evs_cons; apply ev_at; apply ev_var; exact lk_hd; kernel_rfl!; exact ev_int; apply At.tup; exact Nth.n1)
      intros
      (with_reducible kernel_rfl!; apply evs_cons; apply ev_at; apply ev_var; exact lk_hd; kernel_rfl!; exact ev_int; apply At.tup; exact Nth.n2)
      intros
      (with_reducible kernel_rfl!; exact evs_nil)
      intros
      kernel_rfl!
      intros
      kernel_rfl!
      exact leT (by kernel_rfl!)
      with_reducible exact evs_nil
      intros
      kernel_rfl!
      intros
      (with_reducible kernel_rfl!; exact c_rmul1 (by assumption) _)
      exact leT (by kernel_rfl!); intros
      (with_reducible kernel_rfl!; kernel_rfl!)
      intros
      (with_reducible kernel_rfl!; apply xk_nxt; exact xs_nil; apply xk_nxt; exact xs_nil; apply Lp.cons; apply xs_seq; apply x1_if; apply ts_cmp; apply ev_at; apply ev_var; exact lk_hd; kernel_rfl!; exact ev_int; apply At.tup; exact Nth.n0)
      intros
      (with_reducible kernel_rfl!; exact ev_str; apply op_eqS)
      exact isT (by kernel_rfl!)
      (with_reducible kernel_rfl!; apply ar_t; apply xs_seq; apply x1_assign; apply ev_call; kernel_rfl!; kernel_rfl!; apply evs_cons; apply ev_var; apply lk_tl; kernel_rfl!; exact lk_hd; kernel_rfl!; apply evs_cons; apply ev_tup; apply evs_cons; apply ev_at; apply ev_var; exact lk_hd; kernel_rfl!; exact ev_int; apply At.tup; exact Nth.n1)
      intros
      (with_reducible kernel_rfl!; apply evs_cons; apply ev_at; apply ev_var; exact lk_hd; kernel_rfl!; exact ev_int; apply At.tup; exact Nth.n2)
      intros
      (with_reducible kernel_rfl!; exact evs_nil)
      intros
      kernel_rfl!
      intros
      kernel_rfl!
      exact leT (by kernel_rfl!)
      with_reducible exact evs_nil
      intros
      kernel_rfl!
      intros
      (with_reducible kernel_rfl!; exact c_rmul (by assumption) _ _ (by assumption))
      exact leT (by kernel_rfl!); intros
      (with_reducible kernel_rfl!; kernel_rfl!)
      intros
      (with_reducible kernel_rfl!; apply xk_nxt; exact xs_nil; apply xk_nxt; exact xs_nil; exact Lp.nil)
      intros
      (with_reducible kernel_rfl!; apply xk_nxt; apply xs_seq; apply x1_if; apply ts_cmp; apply ev_at; apply ev_var; exact lk_hd; kernel_rfl!; exact ev_int; apply At.tup; exact Nth.n0)
      intros
      (with_reducible kernel_rfl!; exact ev_int; apply op_eqI; assumption; kernel_rfl!; apply ar_f; exact xs_nil; apply xk_nxt; apply xs_seq; apply x1_swap2; apply ev_tup; apply evs_cons; apply ev_lst; exact evs_nil)
      exact leT (by kernel_rfl!)
      (with_reducible apply evs_cons; exact ev_true; exact evs_nil)
      intros
      kernel_rfl!
      intros
      kernel_rfl!
      exact leT (by kernel_rfl!)
      (with_reducible kernel_rfl!; kernel_rfl!)
      intro env h; cases env; subst h
      (with_reducible kernel_rfl!; apply xk_nxt; apply xs_seq; apply x1_for0; apply ev_met0; apply ev_var; apply lk_tl; kernel_rfl!; apply lk_tl; kernel_rfl!; apply lk_tl; kernel_rfl!; apply lk_tl; kernel_rfl!; apply lk_tl; kernel_rfl!; apply lk_tl; kernel_rfl!; apply lk_tl; kernel_rfl!; exact lk_hd; kernel_rfl!; exact met_items)
      intro env; exact ⟨_, rfl⟩; intros
      (with_reducible kernel_rfl!; apply xk_nxt; apply xs_seq; apply x1_if; apply ts_nt; apply ts_val; apply ev_var; apply lk_tl; kernel_rfl!; exact lk_hd; kernel_rfl!)
      intros
      (with_reducible kernel_rfl!; exact Nt.t; apply ar_f; exact xs_nil; apply xk_nxt; apply xs_seq; apply x1_assign; apply ev_call; kernel_rfl!; kernel_rfl!; apply evs_cons; apply ev_var; exact lk_hd; kernel_rfl!; exact evs_nil)
      intros
      (with_reducible kernel_rfl!; exact c_sort0 (by assumption))
      exact leT (by kernel_rfl!); intros
      (with_reducible kernel_rfl!; kernel_rfl!)
      intros
      (with_reducible kernel_rfl!; apply xk_nxt; apply xs_seq; apply x1_if; apply ts_bool; apply tss_or; apply ts_cmp; apply ev_call_bi; exact bi_len (by assumption); kernel_rfl!; kernel_rfl!; apply evs_cons; apply ev_var; exact lk_hd; kernel_rfl!; exact evs_nil)
      intros
      (with_reducible kernel_rfl!; apply cv_lenL; exact Len.l0)
      intros
      kernel_rfl!
      intros
      (with_reducible kernel_rfl!; exact ev_int; apply op_eqI)
      exact isT (by kernel_rfl!)
      (with_reducible kernel_rfl!; exact aro_t; apply ar_t; apply xs_seq; apply x1_return; apply ev_call; kernel_rfl!; kernel_rfl!; apply evs_cons; apply ev_var; apply lk_tl; kernel_rfl!; apply lk_tl; kernel_rfl!; apply lk_tl; kernel_rfl!; exact lk_hd; kernel_rfl!; exact evs_nil)
      intros
      (with_reducible kernel_rfl!; exact c_nterm (by assumption) _)
      exact leT (by kernel_rfl!); intros
      (with_reducible kernel_rfl!; exact xk_ret; exact xk_ret)
    · rfl
theorem c_gprod3 (F : Fa W) (x y z : Int) (m : IntMulOk x y) (m' : IntMulOk (x * y) z) : CallOK W 4 (Str.ofString "gathered_product") [.lst [Nm x, Nm y, Nm z]] (Nm (x * y * z)) := by
  by_cases hS : x * y * z = 0
  · have b0 : (x * y * z == 0) = true := beqT hS
    refine call_ok' (k := 60) (ps := [Str.ofString "parts"]) (d' := ?d) rfl (by decide) rfl rfl (by kernel_rfl!) (fun _ _ _ => len1 fun _ => by kernel_rfl!) ?_ ?_
    rotate_left
    · conv => arg 5; whnf
      (with_reducible apply xs_seq; apply x1_swap2; apply ev_tup; apply evs_cons; apply ev_tup; apply evs_cons; exact ev_int; apply evs_cons; exact ev_int; exact evs_nil)
      intros
      kernel_rfl!
      intros
      kernel_rfl!
      exact leT (by kernel_rfl!)
      (with_reducible apply evs_cons; exact ev_dict0; exact evs_nil)
      intros
      kernel_rfl!
      intros
      kernel_rfl!
      exact leT (by kernel_rfl!)
      (with_reducible kernel_rfl!; kernel_rfl!)
      intro env h; cases env; subst h
      (with_reducible kernel_rfl!; apply xk_nxt; apply xs_seq; apply x1_for; apply ev_call; kernel_rfl!; kernel_rfl!; apply evs_cons; apply ev_var; apply lk_tl; kernel_rfl!; apply lk_tl; kernel_rfl!; apply lk_zip; exact lk_hd; kernel_rfl!; apply evs_cons; exact ev_str; exact evs_nil)
      intros
      kernel_rfl!
      intros
      (with_reducible kernel_rfl!; exact c_flat3 (by assumption) _ _ _)
      exact leT (by kernel_rfl!); intros
      (with_reducible kernel_rfl!; exact itr_lst; kernel_rfl!; apply Lp.cons; apply xs_seq; apply x1_if; apply ts_cmp; apply ev_at; apply ev_var; exact lk_hd; kernel_rfl!; exact ev_int; apply At.tup; exact Nth.n0)
      intros
      (with_reducible kernel_rfl!; exact ev_str; apply op_eqS)
      exact isT (by kernel_rfl!)
      (with_reducible kernel_rfl!; apply ar_t; apply xs_seq; apply x1_assign; apply ev_call; kernel_rfl!; kernel_rfl!; apply evs_cons; apply ev_var; apply lk_tl; kernel_rfl!; exact lk_hd; kernel_rfl!; apply evs_cons; apply ev_tup; apply evs_cons; apply ev_at; apply ev_var; exact lk_hd; kernel_rfl!; exact ev_int; apply At.tup; exact Nth.n1)
      intros
      (with_reducible kernel_rfl!; apply evs_cons; apply ev_at; apply ev_var; exact lk_hd; kernel_rfl!; exact ev_int; apply At.tup; exact Nth.n2)
      intros
      (with_reducible kernel_rfl!; exact evs_nil)
      intros
      kernel_rfl!
      intros
      kernel_rfl!
      exact leT (by kernel_rfl!)
      with_reducible exact evs_nil
      intros
      kernel_rfl!
      intros
      (with_reducible kernel_rfl!; exact c_rmul1 (by assumption) _)
      exact leT (by kernel_rfl!); intros
      (with_reducible kernel_rfl!; kernel_rfl!)
      intros
      (with_reducible kernel_rfl!; apply xk_nxt; exact xs_nil; apply xk_nxt; exact xs_nil; apply Lp.cons; apply xs_seq; apply x1_if; apply ts_cmp; apply ev_at; apply ev_var; exact lk_hd; kernel_rfl!; exact ev_int; apply At.tup; exact Nth.n0)
      intros
      (with_reducible kernel_rfl!; exact ev_str; apply op_eqS)
      exact isT (by kernel_rfl!)
      (with_reducible kernel_rfl!; apply ar_t; apply xs_seq; apply x1_assign; apply ev_call; kernel_rfl!; kernel_rfl!; apply evs_cons; apply ev_var; apply lk_tl; kernel_rfl!; exact lk_hd; kernel_rfl!; apply evs_cons; apply ev_tup; apply evs_cons; apply ev_at; apply ev_var; exact lk_hd; kernel_rfl!; exact ev_int; apply At.tup; exact Nth.n1)
      intros
      (with_reducible kernel_rfl!; apply evs_cons; apply ev_at; apply ev_var; exact lk_hd; kernel_rfl!; exact ev_int; apply At.tup; exact Nth.n2)
      intros
      (with_reducible kernel_rfl!; exact evs_nil)
      intros
      kernel_rfl!
      intros
      kernel_rfl!
      exact leT (by kernel_rfl!)
      with_reducible exact evs_nil
      intros
      kernel_rfl!
      intros
      (with_reducible kernel_rfl!; exact c_rmul (by assumption) _ _ (by assumption))
      exact leT (by kernel_rfl!); intros
      (with_reducible kernel_rfl!; kernel_rfl!)
      intros
      (with_reducible kernel_rfl!; apply xk_nxt; exact xs_nil; apply xk_nxt; exact xs_nil; apply Lp.cons; apply xs_seq; apply x1_if; apply ts_cmp; apply ev_at; apply ev_var; exact lk_hd; kernel_rfl!; exact ev_int; apply At.tup; exact Nth.n0)
      intros
      (with_reducible kernel_rfl!; exact ev_str; apply op_eqS)
      exact isT (by kernel_rfl!)
      (with_reducible kernel_rfl!; apply ar_t; apply xs_seq; apply x1_assign; apply ev_call; kernel_rfl!; kernel_rfl!; apply evs_cons; apply ev_var; apply lk_tl; kernel_rfl!; exact lk_hd; kernel_rfl!; apply evs_cons; apply ev_tup; apply evs_cons; apply ev_at; apply ev_var; exact lk_hd; kernel_rfl!; exact ev_int; apply At.tup; exact Nth.n1)
      intros
      (with_reducible kernel_rfl!; apply evs_cons; apply ev_at; apply ev_var; exact lk_hd; kernel_rfl!; exact ev_int; apply At.tup; exact Nth.n2)
      intros
      (with_reducible kernel_rfl!; exact evs_nil)
      intros
      kernel_rfl!
      intros
      kernel_rfl!
      exact leT (by kernel_rfl!)
      with_reducible exact evs_nil
      intros
      kernel_rfl!
      intros
      (with_reducible kernel_rfl!; exact c_rmul (by assumption) _ _ (by assumption))
      exact leT (by kernel_rfl!); intros
      (with_reducible kernel_rfl!; kernel_rfl!)
      intros
      (with_reducible kernel_rfl!; apply xk_nxt; exact xs_nil; apply xk_nxt; exact xs_nil; exact Lp.nil)
      intros
      (with_reducible kernel_rfl!; apply xk_nxt; apply xs_seq; apply x1_if; apply ts_cmp; apply ev_at; apply ev_var; exact lk_hd; kernel_rfl!; exact ev_int; apply At.tup; exact Nth.n0)
      intros
      (with_reducible kernel_rfl!; exact ev_int; apply op_eqI; assumption; kernel_rfl!; apply ar_t; apply xs_seq; apply x1_return; apply ev_con; exact Fa.zero (by assumption); kernel_rfl!; kernel_rfl!; exact xk_ret; exact xk_ret)
    · rw [hS]
  · have b0 : (x * y * z == 0) = false := beqF hS
    refine call_ok' (k := 60) (ps := [Str.ofString "parts"]) (d' := ?d2) rfl (by decide) rfl rfl (by kernel_rfl!) (fun _ _ _ => len1 fun _ => by kernel_rfl!) ?_ ?_
    rotate_left
    · conv => arg 5; whnf
      (with_reducible apply xs_seq; apply x1_swap2; apply ev_tup; apply evs_cons; apply ev_tup; apply evs_cons; exact ev_int; apply evs_cons; exact ev_int; exact evs_nil)
      intros
      kernel_rfl!
      intros
      kernel_rfl!
      exact leT (by kernel_rfl!)
      (with_reducible apply evs_cons; exact ev_dict0; exact evs_nil)
      intros
      kernel_rfl!
      intros
      kernel_rfl!
      exact leT (by kernel_rfl!)
      (with_reducible kernel_rfl!; kernel_rfl!)
      intro env h; cases env; subst h
      (with_reducible kernel_rfl!; apply xk_nxt; apply xs_seq; apply x1_for; apply ev_call; kernel_rfl!; kernel_rfl!; apply evs_cons; apply ev_var; apply lk_tl; kernel_rfl!; apply lk_tl; kernel_rfl!; apply lk_zip; exact lk_hd; kernel_rfl!; apply evs_cons; exact ev_str; exact evs_nil)
      intros
      kernel_rfl!
      intros
      (with_reducible kernel_rfl!; exact c_flat3 (by assumption) _ _ _)
      exact leT (by kernel_rfl!); intros
      (with_reducible kernel_rfl!; exact itr_lst; kernel_rfl!; apply Lp.cons; apply xs_seq; apply x1_if; apply ts_cmp; apply ev_at; apply ev_var; exact lk_hd; kernel_rfl!; exact ev_int; apply At.tup; exact Nth.n0)
      intros
      (with_reducible kernel_rfl!; exact ev_str; apply op_eqS)
      exact isT (by kernel_rfl!)
      (with_reducible kernel_rfl!; apply ar_t; apply xs_seq; apply x1_assign; apply ev_call; kernel_rfl!; kernel_rfl!; apply evs_cons; apply ev_var; apply lk_tl; kernel_rfl!; exact lk_hd; kernel_rfl!; apply evs_cons; apply ev_tup; apply evs_cons; apply ev_at; apply ev_var; exact lk_hd; kernel_rfl!; exact ev_int; apply At.tup; exact Nth.n1)
      intros
      (with_reducible kernel_rfl!; apply evs_cons; apply ev_at; apply ev_var; exact lk_hd; kernel_rfl!; exact ev_int; apply At.tup; exact Nth.n2)
      intros
      (with_reducible kernel_rfl!; exact evs_nil)
      intros
      kernel_rfl!
      intros
      kernel_rfl!
      exact leT (by kernel_rfl!)
      with_reducible exact evs_nil
      intros
      kernel_rfl!
      intros
      (with_reducible kernel_rfl!; exact c_rmul1 (by assumption) _)
      exact leT (by kernel_rfl!); intros
      (with_reducible kernel_rfl!; kernel_rfl!)
      intros
      (with_reducible kernel_rfl!; apply xk_nxt; exact xs_nil; apply xk_nxt; exact xs_nil; apply Lp.cons; apply xs_seq; apply x1_if; apply ts_cmp; apply ev_at; apply ev_var; exact lk_hd; kernel_rfl!; exact ev_int; apply At.tup; exact Nth.n0)
      intros
      (with_reducible kernel_rfl!; exact ev_str; apply op_eqS)
      exact isT (by kernel_rfl!)
      (with_reducible kernel_rfl!; apply ar_t; apply xs_seq; apply x1_assign; apply ev_call; kernel_rfl!; kernel_rfl!; apply evs_cons; apply ev_var; apply lk_tl; kernel_rfl!; exact lk_hd; kernel_rfl!; apply evs_cons; apply ev_tup; apply evs_cons; apply ev_at; apply ev_var; exact lk_hd; kernel_rfl!; exact ev_int; apply At.tup; exact Nth.n1)
      intros
      (with_reducible kernel_rfl!; apply evs_cons; apply ev_at; apply ev_var; exact lk_hd; kernel_rfl!; exact ev_int; apply At.tup; exact Nth.n2)
      intros
      (with_reducible kernel_rfl!; exact evs_nil)
      intros
      kernel_rfl!
      intros
      kernel_rfl!
      exact leT (by kernel_rfl!)
      with_reducible exact evs_nil
      intros
      kernel_rfl!
      intros
      (with_reducible kernel_rfl!; exact c_rmul (by assumption) _ _ (by assumption))
      exact leT (by kernel_rfl!); intros
      (with_reducible kernel_rfl!; kernel_rfl!)
      intros
      (with_reducible kernel_rfl!; apply xk_nxt; exact xs_nil; apply xk_nxt; exact xs_nil; apply Lp.cons; apply xs_seq; apply x1_if; apply ts_cmp; apply ev_at; apply ev_var; exact lk_hd; kernel_rfl!; exact ev_int; apply At.tup; exact Nth.n0)
      intros
      (with_reducible kernel_rfl!; exact ev_str; apply op_eqS)
      exact isT (by kernel_rfl!)
      (with_reducible kernel_rfl!; apply ar_t; apply xs_seq; apply x1_assign; apply ev_call; kernel_rfl!; kernel_rfl!; apply evs_cons; apply ev_var; apply lk_tl; kernel_rfl!; exact lk_hd; kernel_rfl!; apply evs_cons; apply ev_tup; apply evs_cons; apply ev_at; apply ev_var; exact lk_hd; kernel_rfl!; exact ev_int; apply At.tup; exact Nth.n1)
      intros
      (with_reducible kernel_rfl!; apply evs_cons; apply ev_at; apply ev_var; exact lk_hd; kernel_rfl!; exact ev_int; apply At.tup; exact Nth.n2)
      intros
      (with_reducible kernel_rfl!; exact evs_nil)
      intros
      kernel_rfl!
      intros
      kernel_rfl!
      exact leT (by kernel_rfl!)
      with_reducible exact evs_nil
      intros
      kernel_rfl!
      intros
      (with_reducible kernel_rfl!; exact c_rmul (by assumption) _ _ (by assumption))
      exact leT (by kernel_rfl!); intros
      (with_reducible kernel_rfl!; kernel_rfl!)
      intros
      (with_reducible kernel_rfl!; apply xk_nxt; exact xs_nil; apply xk_nxt; exact xs_nil; exact Lp.nil)
      intros
      (with_reducible kernel_rfl!; apply xk_nxt; apply xs_seq; apply x1_if; apply ts_cmp; apply ev_at; apply ev_var; exact lk_hd; kernel_rfl!; exact ev_int; apply At.tup; exact Nth.n0)
      intros
      (with_reducible kernel_rfl!; exact ev_int; apply op_eqI; assumption; kernel_rfl!; apply ar_f; exact xs_nil; apply xk_nxt; apply xs_seq; apply x1_swap2; apply ev_tup; apply evs_cons; apply ev_lst; exact evs_nil)
      exact leT (by kernel_rfl!)
      (with_reducible apply evs_cons; exact ev_true; exact evs_nil)
      intros
      kernel_rfl!
      intros
      kernel_rfl!
      exact leT (by kernel_rfl!)
      (with_reducible kernel_rfl!; kernel_rfl!)
      intro env h; cases env; subst h
      (with_reducible kernel_rfl!; apply xk_nxt; apply xs_seq; apply x1_for0; apply ev_met0; apply ev_var; apply lk_tl; kernel_rfl!; apply lk_tl; kernel_rfl!; apply lk_tl; kernel_rfl!; apply lk_tl; kernel_rfl!; apply lk_tl; kernel_rfl!; apply lk_tl; kernel_rfl!; apply lk_tl; kernel_rfl!; apply lk_tl; kernel_rfl!; apply lk_tl; kernel_rfl!; exact lk_hd; kernel_rfl!; exact met_items)
      intro env; exact ⟨_, rfl⟩; intros
      (with_reducible kernel_rfl!; apply xk_nxt; apply xs_seq; apply x1_if; apply ts_nt; apply ts_val; apply ev_var; apply lk_tl; kernel_rfl!; exact lk_hd; kernel_rfl!)
      intros
      (with_reducible kernel_rfl!; exact Nt.t; apply ar_f; exact xs_nil; apply xk_nxt; apply xs_seq; apply x1_assign; apply ev_call; kernel_rfl!; kernel_rfl!; apply evs_cons; apply ev_var; exact lk_hd; kernel_rfl!; exact evs_nil)
      intros
      (with_reducible kernel_rfl!; exact c_sort0 (by assumption))
      exact leT (by kernel_rfl!); intros
      (with_reducible kernel_rfl!; kernel_rfl!)
      intros
      (with_reducible kernel_rfl!; apply xk_nxt; apply xs_seq; apply x1_if; apply ts_bool; apply tss_or; apply ts_cmp; apply ev_call_bi; exact bi_len (by assumption); kernel_rfl!; kernel_rfl!; apply evs_cons; apply ev_var; exact lk_hd; kernel_rfl!; exact evs_nil)
      intros
      (with_reducible kernel_rfl!; apply cv_lenL; exact Len.l0)
      intros
      kernel_rfl!
      intros
      (with_reducible kernel_rfl!; exact ev_int; apply op_eqI)
      exact isT (by kernel_rfl!)
      (with_reducible kernel_rfl!; exact aro_t; apply ar_t; apply xs_seq; apply x1_return; apply ev_call; kernel_rfl!; kernel_rfl!; apply evs_cons; apply ev_var; apply lk_tl; kernel_rfl!; apply lk_tl; kernel_rfl!; apply lk_tl; kernel_rfl!; exact lk_hd; kernel_rfl!; exact evs_nil)
      intros
      (with_reducible kernel_rfl!; exact c_nterm (by assumption) _)
      exact leT (by kernel_rfl!); intros
      (with_reducible kernel_rfl!; exact xk_ret; exact xk_ret)
    · rfl

theorem c_fact (F : Fa W) (x : Int) (h0 : 0 ≤ x) (h1 : x ≤ 100) : CallOK W 2 (Str.ofString "factorial_of") [Nm x] (Nm (fct x)) := by
  refine call_ok' (k := 69) (ps := [Str.ofString "arg"]) (d' := ?d) rfl (by decide) rfl rfl (by kernel_rfl!) (fun _ _ _ => len1 fun _ => by kernel_rfl!) ?_ ?_
  rotate_left
  · conv => arg 5; whnf
    (with_reducible apply xs_seq; apply x1_if; apply ts_bool; apply tss_or; apply ts_nt; apply ts_val; apply ev_call; kernel_rfl!; kernel_rfl!; apply evs_cons; apply ev_var; apply lk_zip; exact lk_hd; kernel_rfl!; exact evs_nil)
    intros
    (with_reducible kernel_rfl!; exact c_whole (by assumption) _)
    exact leT (by kernel_rfl!); intros
    kernel_rfl!
    intros
    (with_reducible kernel_rfl!; exact Nt.t; apply aro_f; apply tss_or; apply ts_cmp; apply ev_at; apply ev_var; apply lk_zip; exact lk_hd; kernel_rfl!; exact ev_int; apply At.tup; exact Nth.n1)
    intros
    (with_reducible kernel_rfl!; apply ev_con; exact Fa.fact (by assumption); kernel_rfl!; kernel_rfl!; apply op_gtI; apply decF)
    omega
    (with_reducible kernel_rfl!; apply aro_f; exact tss_or_nil; apply ar_f; exact xs_nil; apply xk_nxt; apply xs_seq; apply x1_if; apply ts_cmp; apply ev_at; apply ev_var; apply lk_zip; exact lk_hd; kernel_rfl!; exact ev_int; apply At.tup; exact Nth.n1)
    intros
    (with_reducible kernel_rfl!; exact ev_int; apply op_ltI; apply decF)
    omega
    (with_reducible kernel_rfl!; apply ar_f; exact xs_nil; apply xk_nxt; apply xs_seq; apply x1_assign; exact ev_int; kernel_rfl!)
    intros
    (with_reducible kernel_rfl!; apply xk_nxt; apply xs_seq; apply x1_fact (xf := Str.ofString "found"); kernel_rfl!; apply ev_call_ty; exact bi_range (by assumption); kernel_rfl!; kernel_rfl!; apply evs_cons; exact ev_int; apply evs_cons; apply ev_bin; apply ev_at; apply ev_var; apply lk_tl; kernel_rfl!; apply lk_zip; exact lk_hd; kernel_rfl!; exact ev_int; apply At.tup; exact Nth.n1)
    intros
    (with_reducible kernel_rfl!; exact ev_int; exact op_add; exact evs_nil)
    intros
    kernel_rfl!
    intros
    (with_reducible kernel_rfl!; exact cv_range)
    intros
    kernel_rfl!
    intros
    (with_reducible kernel_rfl!; kernel_rfl!; exact lk_hd; kernel_rfl!)
    omega; omega; intros
    kernel_rfl!
    intro σ f a q1 q2 q3
    (with_reducible apply xs_seq; apply x1_assign; apply ev_bin; apply ev_var; assumption; kernel_rfl!; apply ev_var; assumption; kernel_rfl!; apply op_mul)
    assumption
    kernel_rfl!
    intros
    (with_reducible kernel_rfl!; apply xk_nxt; exact xs_nil; apply xk_nxt; apply xs_seq; apply x1_return; apply ev_tup; apply evs_cons; exact ev_str; apply evs_cons; apply ev_var; exact lk_hd; kernel_rfl!; apply evs_cons; exact ev_int; exact evs_nil)
    intros
    kernel_rfl!
    intros
    kernel_rfl!
    intros
    kernel_rfl!
    exact leT (by kernel_rfl!)
    with_reducible exact xk_ret
  · rfl
theorem c_callof (F : Fa W) (x : Int) (h0 : 0 ≤ x) (h1 : x ≤ 100) : CallOK W 3 (Str.ofString "call_of") [.str (Str.ofString "factorial"), .lst [Nm x]] (Nm (fct x)) := by
  refine call_ok' (k := 70) (ps := [Str.ofString "name", Str.ofString "args"]) (d' := ?d) rfl (by decide) rfl rfl (by kernel_rfl!) (fun _ _ _ => len2 fun _ _ => by kernel_rfl!) ?_ ?_
  rotate_left
  · conv => arg 5; whnf
    (with_reducible apply xs_seq; apply x1_if; apply ts_cmp; apply ev_call_bi; exact bi_len (by assumption); kernel_rfl!; kernel_rfl!; apply evs_cons; apply ev_var; apply lk_zip; apply lk_tl; kernel_rfl!; apply lk_zip; exact lk_hd; kernel_rfl!; exact evs_nil)
    intros
    (with_reducible kernel_rfl!; apply cv_lenL; exact Len.l1)
    intros
    kernel_rfl!
    intros
    (with_reducible kernel_rfl!; exact ev_int; apply op_neI)
    exact isF (by kernel_rfl!)
    (with_reducible kernel_rfl!; apply ar_f; exact xs_nil; apply xk_nxt; apply xs_seq; apply x1_assign; apply ev_at; apply ev_var; apply lk_zip; apply lk_tl; kernel_rfl!; apply lk_zip; exact lk_hd; kernel_rfl!; exact ev_int; apply At.lst; exact Nth.n0)
    intros
    (with_reducible kernel_rfl!; kernel_rfl!)
    intros
    (with_reducible kernel_rfl!; apply xk_nxt; apply xs_seq; apply x1_if; apply ts_cmp; apply ev_var; apply lk_tl; kernel_rfl!; apply lk_zip; exact lk_hd; kernel_rfl!; exact ev_str; apply op_eqS)
    exact isF (by kernel_rfl!)
    (with_reducible kernel_rfl!; apply ar_f; exact xs_nil; apply xk_nxt; apply xs_seq; apply x1_if; apply ts_cmp; apply ev_var; apply lk_tl; kernel_rfl!; apply lk_zip; exact lk_hd; kernel_rfl!; exact ev_str; apply op_eqS)
    exact isF (by kernel_rfl!)
    (with_reducible kernel_rfl!; apply ar_f; exact xs_nil; apply xk_nxt; apply xs_seq; apply x1_if; apply ts_cmp; apply ev_var; apply lk_tl; kernel_rfl!; apply lk_zip; exact lk_hd; kernel_rfl!; exact ev_str; apply op_eqS)
    exact isF (by kernel_rfl!)
    (with_reducible kernel_rfl!; apply ar_f; exact xs_nil; apply xk_nxt; apply xs_seq; apply x1_if; apply ts_cmp; apply ev_var; apply lk_tl; kernel_rfl!; apply lk_zip; exact lk_hd; kernel_rfl!; exact ev_str; apply op_eqS)
    exact isT (by kernel_rfl!)
    (with_reducible kernel_rfl!; apply ar_t; apply xs_seq; apply x1_return; apply ev_call; kernel_rfl!; kernel_rfl!; apply evs_cons; apply ev_var; exact lk_hd; kernel_rfl!; exact evs_nil)
    intros
    (with_reducible kernel_rfl!; exact c_fact (by assumption) _ (by assumption) (by assumption))
    exact leT (by kernel_rfl!); intros
    (with_reducible kernel_rfl!; exact xk_ret; exact xk_ret)
  · rfl

theorem c_simp_sum (F : Fa W) (x y : Int) : CallOK W 5 (Str.ofString "simplify") [Sm [Nm x, Nm y]] (Nm (x + y)) := by
  refine call_ok' (k := 71) (ps := [Str.ofString "t"]) (d' := ?d) rfl (by decide) rfl rfl (by kernel_rfl!) (fun _ _ _ => len1 fun _ => by kernel_rfl!) ?_ ?_
  rotate_left
  · conv => arg 5; whnf
    (with_reducible apply xs_seq; apply x1_assign; apply ev_at; apply ev_var; apply lk_zip; exact lk_hd; kernel_rfl!; exact ev_int; apply At.tup; exact Nth.n0)
    intros
    (with_reducible kernel_rfl!; kernel_rfl!)
    intros
    (with_reducible kernel_rfl!; apply xk_nxt; apply xs_seq; apply x1_if; apply ts_cmp; apply ev_var; exact lk_hd; kernel_rfl!; exact ev_str; apply op_eqS)
    exact isF (by kernel_rfl!)
    (with_reducible kernel_rfl!; apply ar_f; exact xs_nil; apply xk_nxt; apply xs_seq; apply x1_if; apply ts_cmp; apply ev_var; exact lk_hd; kernel_rfl!; exact ev_str; apply op_eqS)
    exact isF (by kernel_rfl!)
    (with_reducible kernel_rfl!; apply ar_f; exact xs_nil; apply xk_nxt; apply xs_seq; apply x1_if; apply ts_cmp; apply ev_var; exact lk_hd; kernel_rfl!; exact ev_str; apply op_eqS)
    exact isF (by kernel_rfl!)
    (with_reducible kernel_rfl!; apply ar_f; exact xs_nil; apply xk_nxt; apply xs_seq; apply x1_if; apply ts_cmp; apply ev_var; exact lk_hd; kernel_rfl!; exact ev_str; apply op_eqS)
    exact isF (by kernel_rfl!)
    (with_reducible kernel_rfl!; apply ar_f; exact xs_nil; apply xk_nxt; apply xs_seq; apply x1_if; apply ts_cmp; apply ev_var; exact lk_hd; kernel_rfl!; exact ev_str; apply op_eqS)
    exact isF (by kernel_rfl!)
    (with_reducible kernel_rfl!; apply ar_f; exact xs_nil; apply xk_nxt; apply xs_seq; apply x1_lc; apply ev_at; apply ev_var; apply lk_tl; kernel_rfl!; apply lk_zip; exact lk_hd; kernel_rfl!; exact ev_int; apply At.tup; exact Nth.n1)
    intros
    (with_reducible kernel_rfl!; exact itr_tup)
    exact cap0 (by kernel_rfl!)
    kernel_rfl!
    exact leT (by kernel_rfl!); intros
    (with_reducible kernel_rfl!; kernel_rfl!)
    intro env h; cases env; subst h
    (with_reducible kernel_rfl!; apply cp_step; exact If1.none; apply cpk_t; apply ev_call; kernel_rfl!; kernel_rfl!; apply evs_cons; apply ev_var; exact lk_hd; kernel_rfl!; exact evs_nil)
    intros
    (with_reducible kernel_rfl!; exact c_simp_num (by assumption) _)
    exact leT (by kernel_rfl!); intros
    (with_reducible kernel_rfl!; apply cp_step; exact If1.none; apply cpk_t; apply ev_call; kernel_rfl!; kernel_rfl!; apply evs_cons; apply ev_var; exact lk_hd; kernel_rfl!; exact evs_nil)
    intros
    (with_reducible kernel_rfl!; exact c_simp_num (by assumption) _)
    exact leT (by kernel_rfl!); intros
    (with_reducible kernel_rfl!; exact Cp.nil; apply xk_nxt; apply xs_seq; apply x1_if; apply ts_cmp; apply ev_var; apply lk_tl; kernel_rfl!; exact lk_hd; kernel_rfl!; exact ev_str; apply op_eqS)
    exact isT (by kernel_rfl!)
    (with_reducible kernel_rfl!; apply ar_t; apply xs_seq; apply x1_return; apply ev_call; kernel_rfl!; kernel_rfl!; apply evs_cons; apply ev_var; exact lk_hd; kernel_rfl!; exact evs_nil)
    intros
    (with_reducible kernel_rfl!; exact c_gsum2 (by assumption) _ _)
    exact leT (by kernel_rfl!); intros
    (with_reducible kernel_rfl!; exact xk_ret; exact xk_ret)
  · rfl

theorem c_hasratio2 (F : Fa W) (x y : Int) : CallOK W 1 (Str.ofString "has_ratio") [Pr [Nm x, Nm y]] (.bool false) := by
  refine call_ok' (k := 81) (ps := [Str.ofString "t"]) (d' := ?d) rfl (by decide) rfl rfl (by kernel_rfl!) (fun _ _ _ => len1 fun _ => by kernel_rfl!) ?_ ?_
  rotate_left
  · conv => arg 5; whnf
    (with_reducible apply xs_seq; apply x1_assign; apply ev_if; apply ts_cmp; apply ev_at; apply ev_var; apply lk_zip; exact lk_hd; kernel_rfl!; exact ev_int; apply At.tup; exact Nth.n0)
    intros
    (with_reducible kernel_rfl!; exact ev_str; apply op_eqS)
    exact isT (by kernel_rfl!)
    (with_reducible kernel_rfl!; apply are_t; apply ev_at; apply ev_var; apply lk_zip; exact lk_hd; kernel_rfl!; exact ev_int; apply At.tup; exact Nth.n1)
    intros
    (with_reducible kernel_rfl!; kernel_rfl!)
    intros
    (with_reducible kernel_rfl!; apply xk_nxt; apply xs_seq; apply x1_return; apply ev_cmp; apply ev_call_bi; exact bi_len (by assumption); kernel_rfl!; kernel_rfl!; apply evs_cons; apply ev_lc; apply ev_var; exact lk_hd; kernel_rfl!; exact itr_tup)
    exact cap0 (by kernel_rfl!)
    kernel_rfl!
    exact leT (by kernel_rfl!); intros
    (with_reducible kernel_rfl!; apply cp_step; apply If1.one; apply ts_bool; apply tss_and; apply ts_cmp; apply ev_at; apply ev_var; exact lk_hd; kernel_rfl!; exact ev_int; apply At.tup; exact Nth.n0)
    intros
    (with_reducible kernel_rfl!; exact ev_str; apply op_eqS)
    exact isF (by kernel_rfl!)
    (with_reducible kernel_rfl!; exact ara_f; apply cpk_f; apply cp_step; apply If1.one; apply ts_bool; apply tss_and; apply ts_cmp; apply ev_at; apply ev_var; exact lk_hd; kernel_rfl!; exact ev_int; apply At.tup; exact Nth.n0)
    intros
    (with_reducible kernel_rfl!; exact ev_str; apply op_eqS)
    exact isF (by kernel_rfl!)
    (with_reducible kernel_rfl!; exact ara_f; apply cpk_f; exact Cp.nil; exact evs_nil)
    intros
    (with_reducible kernel_rfl!; apply cv_lenL; exact Len.l0)
    intros
    kernel_rfl!
    intros
    (with_reducible kernel_rfl!; exact ev_int; apply op_gtI)
    exact isF (by kernel_rfl!)
    (with_reducible kernel_rfl!; exact xk_ret)
  · rfl
theorem c_hasratio3 (F : Fa W) (x y z : Int) : CallOK W 1 (Str.ofString "has_ratio") [Pr [Nm x, Nm y, Nm z]] (.bool false) := by
  refine call_ok' (k := 81) (ps := [Str.ofString "t"]) (d' := ?d) rfl (by decide) rfl rfl (by kernel_rfl!) (fun _ _ _ => len1 fun _ => by kernel_rfl!) ?_ ?_
  rotate_left
  · conv => arg 5; whnf
    (with_reducible apply xs_seq; apply x1_assign; apply ev_if; apply ts_cmp; apply ev_at; apply ev_var; apply lk_zip; exact lk_hd; kernel_rfl!; exact ev_int; apply At.tup; exact Nth.n0)
    intros
    (with_reducible kernel_rfl!; exact ev_str; apply op_eqS)
    exact isT (by kernel_rfl!)
    (with_reducible kernel_rfl!; apply are_t; apply ev_at; apply ev_var; apply lk_zip; exact lk_hd; kernel_rfl!; exact ev_int; apply At.tup; exact Nth.n1)
    intros
    (with_reducible kernel_rfl!; kernel_rfl!)
    intros
    (with_reducible kernel_rfl!; apply xk_nxt; apply xs_seq; apply x1_return; apply ev_cmp; apply ev_call_bi; exact bi_len (by assumption); kernel_rfl!; kernel_rfl!; apply evs_cons; apply ev_lc; apply ev_var; exact lk_hd; kernel_rfl!; exact itr_tup)
    exact cap0 (by kernel_rfl!)
    kernel_rfl!
    exact leT (by kernel_rfl!); intros
    (with_reducible kernel_rfl!; apply cp_step; apply If1.one; apply ts_bool; apply tss_and; apply ts_cmp; apply ev_at; apply ev_var; exact lk_hd; kernel_rfl!; exact ev_int; apply At.tup; exact Nth.n0)
    intros
    (with_reducible kernel_rfl!; exact ev_str; apply op_eqS)
    exact isF (by kernel_rfl!)
    (with_reducible kernel_rfl!; exact ara_f; apply cpk_f; apply cp_step; apply If1.one; apply ts_bool; apply tss_and; apply ts_cmp; apply ev_at; apply ev_var; exact lk_hd; kernel_rfl!; exact ev_int; apply At.tup; exact Nth.n0)
    intros
    (with_reducible kernel_rfl!; exact ev_str; apply op_eqS)
    exact isF (by kernel_rfl!)
    (with_reducible kernel_rfl!; exact ara_f; apply cpk_f; apply cp_step; apply If1.one; apply ts_bool; apply tss_and; apply ts_cmp; apply ev_at; apply ev_var; exact lk_hd; kernel_rfl!; exact ev_int; apply At.tup; exact Nth.n0)
    intros
    (with_reducible kernel_rfl!; exact ev_str; apply op_eqS)
    exact isF (by kernel_rfl!)
    (with_reducible kernel_rfl!; exact ara_f; apply cpk_f; exact Cp.nil; exact evs_nil)
    intros
    (with_reducible kernel_rfl!; apply cv_lenL; exact Len.l0)
    intros
    kernel_rfl!
    intros
    (with_reducible kernel_rfl!; exact ev_int; apply op_gtI)
    exact isF (by kernel_rfl!)
    (with_reducible kernel_rfl!; exact xk_ret)
  · rfl
theorem c_bits1 (F : Fa W) : CallOK W 1 (Str.ofString "bits_of") [.int 1] (.int 1) := by
  refine call_ok' (k := 4) (ps := [Str.ofString "n"]) (d' := ?d) rfl (by decide) rfl rfl (by kernel_rfl!) (fun _ _ _ => len1 fun _ => by kernel_rfl!) ?_ ?_
  rotate_left
  · conv => arg 5; whnf
    (with_reducible apply xs_seq; apply x1_assign; exact ev_int; kernel_rfl!)
    intros
    (with_reducible kernel_rfl!; apply xk_nxt; apply xs_seq; apply x1_for; apply ev_tup; apply evs_cons; exact ev_int; apply evs_cons; exact ev_int; apply evs_cons; exact ev_int; exact evs_nil)
    intros
    kernel_rfl!
    intros
    kernel_rfl!
    intros
    kernel_rfl!
    exact leT (by kernel_rfl!)
    (with_reducible exact itr_tup; kernel_rfl!; apply Lp.cons; apply xs_seq; apply x1_assign; apply ev_bin; exact ev_int; apply ev_var; exact lk_hd; kernel_rfl!; apply op_pow)
    exact leI (by kernel_rfl!); exact leI (by kernel_rfl!)
    kernel_rfl!
    intros
    (with_reducible kernel_rfl!; apply xk_nxt; apply xs_seq; apply x1_wh; apply wh_step; apply ts_cmp; apply ev_var; apply lk_tl; kernel_rfl!; apply lk_tl; kernel_rfl!; apply lk_tl; kernel_rfl!; apply lk_zip; exact lk_hd; kernel_rfl!; apply ev_var; exact lk_hd; kernel_rfl!; apply op_geI)
    exact isF (by kernel_rfl!)
    (with_reducible kernel_rfl!; exact whk_f; apply xk_nxt; exact xs_nil; apply Lp.cons; apply xs_seq; apply x1_assign; apply ev_bin; exact ev_int; apply ev_var; exact lk_hd; kernel_rfl!; apply op_pow)
    exact leI (by kernel_rfl!); exact leI (by kernel_rfl!)
    kernel_rfl!
    intros
    (with_reducible kernel_rfl!; apply xk_nxt; apply xs_seq; apply x1_wh; apply wh_step; apply ts_cmp; apply ev_var; apply lk_tl; kernel_rfl!; apply lk_tl; kernel_rfl!; apply lk_tl; kernel_rfl!; apply lk_tl; kernel_rfl!; apply lk_tl; kernel_rfl!; apply lk_zip; exact lk_hd; kernel_rfl!; apply ev_var; exact lk_hd; kernel_rfl!; apply op_geI)
    exact isF (by kernel_rfl!)
    (with_reducible kernel_rfl!; exact whk_f; apply xk_nxt; exact xs_nil; apply Lp.cons; apply xs_seq; apply x1_assign; apply ev_bin; exact ev_int; apply ev_var; exact lk_hd; kernel_rfl!; apply op_pow)
    exact leI (by kernel_rfl!); exact leI (by kernel_rfl!)
    kernel_rfl!
    intros
    (with_reducible kernel_rfl!; apply xk_nxt; apply xs_seq; apply x1_wh; apply wh_step; apply ts_cmp; apply ev_var; apply lk_tl; kernel_rfl!; apply lk_tl; kernel_rfl!; apply lk_tl; kernel_rfl!; apply lk_tl; kernel_rfl!; apply lk_tl; kernel_rfl!; apply lk_tl; kernel_rfl!; apply lk_tl; kernel_rfl!; apply lk_zip; exact lk_hd; kernel_rfl!; apply ev_var; exact lk_hd; kernel_rfl!; apply op_geI)
    exact isF (by kernel_rfl!)
    (with_reducible kernel_rfl!; exact whk_f; apply xk_nxt; exact xs_nil; exact Lp.nil)
    intros
    (with_reducible kernel_rfl!; apply xk_nxt; apply xs_seq; apply x1_return; apply ev_bin; apply ev_var; apply lk_tl; kernel_rfl!; apply lk_tl; kernel_rfl!; apply lk_tl; kernel_rfl!; apply lk_tl; kernel_rfl!; apply lk_tl; kernel_rfl!; apply lk_tl; kernel_rfl!; exact lk_hd; kernel_rfl!; apply ev_var; apply lk_tl; kernel_rfl!; apply lk_tl; kernel_rfl!; apply lk_tl; kernel_rfl!; apply lk_tl; kernel_rfl!; apply lk_tl; kernel_rfl!; apply lk_tl; kernel_rfl!; apply lk_tl; kernel_rfl!; apply lk_zip; exact lk_hd; kernel_rfl!; exact op_add; exact xk_ret)
  · kernel_rfl!
theorem c_bits2 (F : Fa W) : CallOK W 1 (Str.ofString "bits_of") [.int 2] (.int 2) := by
  refine call_ok' (k := 4) (ps := [Str.ofString "n"]) (d' := ?d) rfl (by decide) rfl rfl (by kernel_rfl!) (fun _ _ _ => len1 fun _ => by kernel_rfl!) ?_ ?_
  rotate_left
  · conv => arg 5; whnf
    (with_reducible apply xs_seq; apply x1_assign; exact ev_int; kernel_rfl!)
    intros
    (with_reducible kernel_rfl!; apply xk_nxt; apply xs_seq; apply x1_for; apply ev_tup; apply evs_cons; exact ev_int; apply evs_cons; exact ev_int; apply evs_cons; exact ev_int; exact evs_nil)
    intros
    kernel_rfl!
    intros
    kernel_rfl!
    intros
    kernel_rfl!
    exact leT (by kernel_rfl!)
    (with_reducible exact itr_tup; kernel_rfl!; apply Lp.cons; apply xs_seq; apply x1_assign; apply ev_bin; exact ev_int; apply ev_var; exact lk_hd; kernel_rfl!; apply op_pow)
    exact leI (by kernel_rfl!); exact leI (by kernel_rfl!)
    kernel_rfl!
    intros
    (with_reducible kernel_rfl!; apply xk_nxt; apply xs_seq; apply x1_wh; apply wh_step; apply ts_cmp; apply ev_var; apply lk_tl; kernel_rfl!; apply lk_tl; kernel_rfl!; apply lk_tl; kernel_rfl!; apply lk_zip; exact lk_hd; kernel_rfl!; apply ev_var; exact lk_hd; kernel_rfl!; apply op_geI)
    exact isF (by kernel_rfl!)
    (with_reducible kernel_rfl!; exact whk_f; apply xk_nxt; exact xs_nil; apply Lp.cons; apply xs_seq; apply x1_assign; apply ev_bin; exact ev_int; apply ev_var; exact lk_hd; kernel_rfl!; apply op_pow)
    exact leI (by kernel_rfl!); exact leI (by kernel_rfl!)
    kernel_rfl!
    intros
    (with_reducible kernel_rfl!; apply xk_nxt; apply xs_seq; apply x1_wh; apply wh_step; apply ts_cmp; apply ev_var; apply lk_tl; kernel_rfl!; apply lk_tl; kernel_rfl!; apply lk_tl; kernel_rfl!; apply lk_tl; kernel_rfl!; apply lk_tl; kernel_rfl!; apply lk_zip; exact lk_hd; kernel_rfl!; apply ev_var; exact lk_hd; kernel_rfl!; apply op_geI)
    exact isF (by kernel_rfl!)
    (with_reducible kernel_rfl!; exact whk_f; apply xk_nxt; exact xs_nil; apply Lp.cons; apply xs_seq; apply x1_assign; apply ev_bin; exact ev_int; apply ev_var; exact lk_hd; kernel_rfl!; apply op_pow)
    exact leI (by kernel_rfl!); exact leI (by kernel_rfl!)
    kernel_rfl!
    intros
    (with_reducible kernel_rfl!; apply xk_nxt; apply xs_seq; apply x1_wh; apply wh_step; apply ts_cmp; apply ev_var; apply lk_tl; kernel_rfl!; apply lk_tl; kernel_rfl!; apply lk_tl; kernel_rfl!; apply lk_tl; kernel_rfl!; apply lk_tl; kernel_rfl!; apply lk_tl; kernel_rfl!; apply lk_tl; kernel_rfl!; apply lk_zip; exact lk_hd; kernel_rfl!; apply ev_var; exact lk_hd; kernel_rfl!; apply op_geI)
    exact isT (by kernel_rfl!)
    (with_reducible kernel_rfl!; apply whk_t; apply xs_seq; apply x1_swap2; apply ev_tup; apply evs_cons; apply ev_bin; apply ev_var; apply lk_tl; kernel_rfl!; apply lk_tl; kernel_rfl!; apply lk_tl; kernel_rfl!; apply lk_tl; kernel_rfl!; apply lk_tl; kernel_rfl!; apply lk_tl; kernel_rfl!; apply lk_tl; kernel_rfl!; apply lk_zip; exact lk_hd; kernel_rfl!; apply ev_var; exact lk_hd; kernel_rfl!; apply op_fdiv)
    decide
    (with_reducible kernel_rfl!; apply evs_cons; apply ev_bin; apply ev_var; apply lk_tl; kernel_rfl!; apply lk_tl; kernel_rfl!; apply lk_tl; kernel_rfl!; apply lk_tl; kernel_rfl!; apply lk_tl; kernel_rfl!; apply lk_tl; kernel_rfl!; exact lk_hd; kernel_rfl!; apply ev_var; apply lk_tl; kernel_rfl!; exact lk_hd; kernel_rfl!; exact op_add; exact evs_nil)
    intros
    kernel_rfl!
    intros
    kernel_rfl!
    exact leT (by kernel_rfl!)
    (with_reducible kernel_rfl!; kernel_rfl!)
    intro env h; cases env; subst h
    (with_reducible kernel_rfl!; apply xk_nxt; exact xs_nil; apply wh_step; apply ts_cmp; apply ev_var; exact lk_hd; kernel_rfl!; apply ev_var; apply lk_tl; kernel_rfl!; apply lk_tl; kernel_rfl!; exact lk_hd; kernel_rfl!; apply op_geI)
    exact isF (by kernel_rfl!)
    (with_reducible kernel_rfl!; exact whk_f; apply xk_nxt; exact xs_nil; exact Lp.nil)
    intros
    (with_reducible kernel_rfl!; apply xk_nxt; apply xs_seq; apply x1_return; apply ev_bin; apply ev_var; apply lk_tl; kernel_rfl!; exact lk_hd; kernel_rfl!; apply ev_var; exact lk_hd; kernel_rfl!; exact op_add; exact xk_ret)
  · kernel_rfl!
theorem c_bits3 (F : Fa W) : CallOK W 1 (Str.ofString "bits_of") [.int 3] (.int 2) := by
  refine call_ok' (k := 4) (ps := [Str.ofString "n"]) (d' := ?d) rfl (by decide) rfl rfl (by kernel_rfl!) (fun _ _ _ => len1 fun _ => by kernel_rfl!) ?_ ?_
  rotate_left
  · conv => arg 5; whnf
    (with_reducible apply xs_seq; apply x1_assign; exact ev_int; kernel_rfl!)
    intros
    (with_reducible kernel_rfl!; apply xk_nxt; apply xs_seq; apply x1_for; apply ev_tup; apply evs_cons; exact ev_int; apply evs_cons; exact ev_int; apply evs_cons; exact ev_int; exact evs_nil)
    intros
    kernel_rfl!
    intros
    kernel_rfl!
    intros
    kernel_rfl!
    exact leT (by kernel_rfl!)
    (with_reducible exact itr_tup; kernel_rfl!; apply Lp.cons; apply xs_seq; apply x1_assign; apply ev_bin; exact ev_int; apply ev_var; exact lk_hd; kernel_rfl!; apply op_pow)
    exact leI (by kernel_rfl!); exact leI (by kernel_rfl!)
    kernel_rfl!
    intros
    (with_reducible kernel_rfl!; apply xk_nxt; apply xs_seq; apply x1_wh; apply wh_step; apply ts_cmp; apply ev_var; apply lk_tl; kernel_rfl!; apply lk_tl; kernel_rfl!; apply lk_tl; kernel_rfl!; apply lk_zip; exact lk_hd; kernel_rfl!; apply ev_var; exact lk_hd; kernel_rfl!; apply op_geI)
    exact isF (by kernel_rfl!)
    (with_reducible kernel_rfl!; exact whk_f; apply xk_nxt; exact xs_nil; apply Lp.cons; apply xs_seq; apply x1_assign; apply ev_bin; exact ev_int; apply ev_var; exact lk_hd; kernel_rfl!; apply op_pow)
    exact leI (by kernel_rfl!); exact leI (by kernel_rfl!)
    kernel_rfl!
    intros
    (with_reducible kernel_rfl!; apply xk_nxt; apply xs_seq; apply x1_wh; apply wh_step; apply ts_cmp; apply ev_var; apply lk_tl; kernel_rfl!; apply lk_tl; kernel_rfl!; apply lk_tl; kernel_rfl!; apply lk_tl; kernel_rfl!; apply lk_tl; kernel_rfl!; apply lk_zip; exact lk_hd; kernel_rfl!; apply ev_var; exact lk_hd; kernel_rfl!; apply op_geI)
    exact isF (by kernel_rfl!)
    (with_reducible kernel_rfl!; exact whk_f; apply xk_nxt; exact xs_nil; apply Lp.cons; apply xs_seq; apply x1_assign; apply ev_bin; exact ev_int; apply ev_var; exact lk_hd; kernel_rfl!; apply op_pow)
    exact leI (by kernel_rfl!); exact leI (by kernel_rfl!)
    kernel_rfl!
    intros
    (with_reducible kernel_rfl!; apply xk_nxt; apply xs_seq; apply x1_wh; apply wh_step; apply ts_cmp; apply ev_var; apply lk_tl; kernel_rfl!; apply lk_tl; kernel_rfl!; apply lk_tl; kernel_rfl!; apply lk_tl; kernel_rfl!; apply lk_tl; kernel_rfl!; apply lk_tl; kernel_rfl!; apply lk_tl; kernel_rfl!; apply lk_zip; exact lk_hd; kernel_rfl!; apply ev_var; exact lk_hd; kernel_rfl!; apply op_geI)
    exact isT (by kernel_rfl!)
    (with_reducible kernel_rfl!; apply whk_t; apply xs_seq; apply x1_swap2; apply ev_tup; apply evs_cons; apply ev_bin; apply ev_var; apply lk_tl; kernel_rfl!; apply lk_tl; kernel_rfl!; apply lk_tl; kernel_rfl!; apply lk_tl; kernel_rfl!; apply lk_tl; kernel_rfl!; apply lk_tl; kernel_rfl!; apply lk_tl; kernel_rfl!; apply lk_zip; exact lk_hd; kernel_rfl!; apply ev_var; exact lk_hd; kernel_rfl!; apply op_fdiv)
    decide
    (with_reducible kernel_rfl!; apply evs_cons; apply ev_bin; apply ev_var; apply lk_tl; kernel_rfl!; apply lk_tl; kernel_rfl!; apply lk_tl; kernel_rfl!; apply lk_tl; kernel_rfl!; apply lk_tl; kernel_rfl!; apply lk_tl; kernel_rfl!; exact lk_hd; kernel_rfl!; apply ev_var; apply lk_tl; kernel_rfl!; exact lk_hd; kernel_rfl!; exact op_add; exact evs_nil)
    intros
    kernel_rfl!
    intros
    kernel_rfl!
    exact leT (by kernel_rfl!)
    (with_reducible kernel_rfl!; kernel_rfl!)
    intro env h; cases env; subst h
    (with_reducible kernel_rfl!; apply xk_nxt; exact xs_nil; apply wh_step; apply ts_cmp; apply ev_var; exact lk_hd; kernel_rfl!; apply ev_var; apply lk_tl; kernel_rfl!; apply lk_tl; kernel_rfl!; exact lk_hd; kernel_rfl!; apply op_geI)
    exact isF (by kernel_rfl!)
    (with_reducible kernel_rfl!; exact whk_f; apply xk_nxt; exact xs_nil; exact Lp.nil)
    intros
    (with_reducible kernel_rfl!; apply xk_nxt; apply xs_seq; apply x1_return; apply ev_bin; apply ev_var; apply lk_tl; kernel_rfl!; exact lk_hd; kernel_rfl!; apply ev_var; exact lk_hd; kernel_rfl!; exact op_add; exact xk_ret)
  · kernel_rfl!
theorem c_bits4 (F : Fa W) : CallOK W 1 (Str.ofString "bits_of") [.int 4] (.int 3) := by
  refine call_ok' (k := 4) (ps := [Str.ofString "n"]) (d' := ?d) rfl (by decide) rfl rfl (by kernel_rfl!) (fun _ _ _ => len1 fun _ => by kernel_rfl!) ?_ ?_
  rotate_left
  · conv => arg 5; whnf
    (with_reducible apply xs_seq; apply x1_assign; exact ev_int; kernel_rfl!)
    intros
    (with_reducible kernel_rfl!; apply xk_nxt; apply xs_seq; apply x1_for; apply ev_tup; apply evs_cons; exact ev_int; apply evs_cons; exact ev_int; apply evs_cons; exact ev_int; exact evs_nil)
    intros
    kernel_rfl!
    intros
    kernel_rfl!
    intros
    kernel_rfl!
    exact leT (by kernel_rfl!)
    (with_reducible exact itr_tup; kernel_rfl!; apply Lp.cons; apply xs_seq; apply x1_assign; apply ev_bin; exact ev_int; apply ev_var; exact lk_hd; kernel_rfl!; apply op_pow)
    exact leI (by kernel_rfl!); exact leI (by kernel_rfl!)
    kernel_rfl!
    intros
    (with_reducible kernel_rfl!; apply xk_nxt; apply xs_seq; apply x1_wh; apply wh_step; apply ts_cmp; apply ev_var; apply lk_tl; kernel_rfl!; apply lk_tl; kernel_rfl!; apply lk_tl; kernel_rfl!; apply lk_zip; exact lk_hd; kernel_rfl!; apply ev_var; exact lk_hd; kernel_rfl!; apply op_geI)
    exact isF (by kernel_rfl!)
    (with_reducible kernel_rfl!; exact whk_f; apply xk_nxt; exact xs_nil; apply Lp.cons; apply xs_seq; apply x1_assign; apply ev_bin; exact ev_int; apply ev_var; exact lk_hd; kernel_rfl!; apply op_pow)
    exact leI (by kernel_rfl!); exact leI (by kernel_rfl!)
    kernel_rfl!
    intros
    (with_reducible kernel_rfl!; apply xk_nxt; apply xs_seq; apply x1_wh; apply wh_step; apply ts_cmp; apply ev_var; apply lk_tl; kernel_rfl!; apply lk_tl; kernel_rfl!; apply lk_tl; kernel_rfl!; apply lk_tl; kernel_rfl!; apply lk_tl; kernel_rfl!; apply lk_zip; exact lk_hd; kernel_rfl!; apply ev_var; exact lk_hd; kernel_rfl!; apply op_geI)
    exact isF (by kernel_rfl!)
    (with_reducible kernel_rfl!; exact whk_f; apply xk_nxt; exact xs_nil; apply Lp.cons; apply xs_seq; apply x1_assign; apply ev_bin; exact ev_int; apply ev_var; exact lk_hd; kernel_rfl!; apply op_pow)
    exact leI (by kernel_rfl!); exact leI (by kernel_rfl!)
    kernel_rfl!
    intros
    (with_reducible kernel_rfl!; apply xk_nxt; apply xs_seq; apply x1_wh; apply wh_step; apply ts_cmp; apply ev_var; apply lk_tl; kernel_rfl!; apply lk_tl; kernel_rfl!; apply lk_tl; kernel_rfl!; apply lk_tl; kernel_rfl!; apply lk_tl; kernel_rfl!; apply lk_tl; kernel_rfl!; apply lk_tl; kernel_rfl!; apply lk_zip; exact lk_hd; kernel_rfl!; apply ev_var; exact lk_hd; kernel_rfl!; apply op_geI)
    exact isT (by kernel_rfl!)
    (with_reducible kernel_rfl!; apply whk_t; apply xs_seq; apply x1_swap2; apply ev_tup; apply evs_cons; apply ev_bin; apply ev_var; apply lk_tl; kernel_rfl!; apply lk_tl; kernel_rfl!; apply lk_tl; kernel_rfl!; apply lk_tl; kernel_rfl!; apply lk_tl; kernel_rfl!; apply lk_tl; kernel_rfl!; apply lk_tl; kernel_rfl!; apply lk_zip; exact lk_hd; kernel_rfl!; apply ev_var; exact lk_hd; kernel_rfl!; apply op_fdiv)
    decide
    (with_reducible kernel_rfl!; apply evs_cons; apply ev_bin; apply ev_var; apply lk_tl; kernel_rfl!; apply lk_tl; kernel_rfl!; apply lk_tl; kernel_rfl!; apply lk_tl; kernel_rfl!; apply lk_tl; kernel_rfl!; apply lk_tl; kernel_rfl!; exact lk_hd; kernel_rfl!; apply ev_var; apply lk_tl; kernel_rfl!; exact lk_hd; kernel_rfl!; exact op_add; exact evs_nil)
    intros
    kernel_rfl!
    intros
    kernel_rfl!
    exact leT (by kernel_rfl!)
    (with_reducible kernel_rfl!; kernel_rfl!)
    intro env h; cases env; subst h
    (with_reducible kernel_rfl!; apply xk_nxt; exact xs_nil; apply wh_step; apply ts_cmp; apply ev_var; exact lk_hd; kernel_rfl!; apply ev_var; apply lk_tl; kernel_rfl!; apply lk_tl; kernel_rfl!; exact lk_hd; kernel_rfl!; apply op_geI)
    exact isT (by kernel_rfl!)
    (with_reducible kernel_rfl!; apply whk_t; apply xs_seq; apply x1_swap2; apply ev_tup; apply evs_cons; apply ev_bin; apply ev_var; exact lk_hd; kernel_rfl!; apply ev_var; apply lk_tl; kernel_rfl!; apply lk_tl; kernel_rfl!; exact lk_hd; kernel_rfl!; apply op_fdiv)
    decide
    (with_reducible kernel_rfl!; apply evs_cons; apply ev_bin; apply ev_var; apply lk_tl; kernel_rfl!; exact lk_hd; kernel_rfl!; apply ev_var; apply lk_tl; kernel_rfl!; apply lk_tl; kernel_rfl!; apply lk_tl; kernel_rfl!; exact lk_hd; kernel_rfl!; exact op_add; exact evs_nil)
    intros
    kernel_rfl!
    intros
    kernel_rfl!
    exact leT (by kernel_rfl!)
    (with_reducible kernel_rfl!; kernel_rfl!)
    intro env h; cases env; subst h
    (with_reducible kernel_rfl!; apply xk_nxt; exact xs_nil; apply wh_step; apply ts_cmp; apply ev_var; exact lk_hd; kernel_rfl!; apply ev_var; apply lk_tl; kernel_rfl!; apply lk_tl; kernel_rfl!; apply lk_tl; kernel_rfl!; apply lk_tl; kernel_rfl!; exact lk_hd; kernel_rfl!; apply op_geI)
    exact isF (by kernel_rfl!)
    (with_reducible kernel_rfl!; exact whk_f; apply xk_nxt; exact xs_nil; exact Lp.nil)
    intros
    (with_reducible kernel_rfl!; apply xk_nxt; apply xs_seq; apply x1_return; apply ev_bin; apply ev_var; apply lk_tl; kernel_rfl!; exact lk_hd; kernel_rfl!; apply ev_var; exact lk_hd; kernel_rfl!; exact op_add; exact xk_ret)
  · kernel_rfl!
theorem c_bits5 (F : Fa W) : CallOK W 1 (Str.ofString "bits_of") [.int 5] (.int 3) := by
  refine call_ok' (k := 4) (ps := [Str.ofString "n"]) (d' := ?d) rfl (by decide) rfl rfl (by kernel_rfl!) (fun _ _ _ => len1 fun _ => by kernel_rfl!) ?_ ?_
  rotate_left
  · conv => arg 5; whnf
    (with_reducible apply xs_seq; apply x1_assign; exact ev_int; kernel_rfl!)
    intros
    (with_reducible kernel_rfl!; apply xk_nxt; apply xs_seq; apply x1_for; apply ev_tup; apply evs_cons; exact ev_int; apply evs_cons; exact ev_int; apply evs_cons; exact ev_int; exact evs_nil)
    intros
    kernel_rfl!
    intros
    kernel_rfl!
    intros
    kernel_rfl!
    exact leT (by kernel_rfl!)
    (with_reducible exact itr_tup; kernel_rfl!; apply Lp.cons; apply xs_seq; apply x1_assign; apply ev_bin; exact ev_int; apply ev_var; exact lk_hd; kernel_rfl!; apply op_pow)
    exact leI (by kernel_rfl!); exact leI (by kernel_rfl!)
    kernel_rfl!
    intros
    (with_reducible kernel_rfl!; apply xk_nxt; apply xs_seq; apply x1_wh; apply wh_step; apply ts_cmp; apply ev_var; apply lk_tl; kernel_rfl!; apply lk_tl; kernel_rfl!; apply lk_tl; kernel_rfl!; apply lk_zip; exact lk_hd; kernel_rfl!; apply ev_var; exact lk_hd; kernel_rfl!; apply op_geI)
    exact isF (by kernel_rfl!)
    (with_reducible kernel_rfl!; exact whk_f; apply xk_nxt; exact xs_nil; apply Lp.cons; apply xs_seq; apply x1_assign; apply ev_bin; exact ev_int; apply ev_var; exact lk_hd; kernel_rfl!; apply op_pow)
    exact leI (by kernel_rfl!); exact leI (by kernel_rfl!)
    kernel_rfl!
    intros
    (with_reducible kernel_rfl!; apply xk_nxt; apply xs_seq; apply x1_wh; apply wh_step; apply ts_cmp; apply ev_var; apply lk_tl; kernel_rfl!; apply lk_tl; kernel_rfl!; apply lk_tl; kernel_rfl!; apply lk_tl; kernel_rfl!; apply lk_tl; kernel_rfl!; apply lk_zip; exact lk_hd; kernel_rfl!; apply ev_var; exact lk_hd; kernel_rfl!; apply op_geI)
    exact isF (by kernel_rfl!)
    (with_reducible kernel_rfl!; exact whk_f; apply xk_nxt; exact xs_nil; apply Lp.cons; apply xs_seq; apply x1_assign; apply ev_bin; exact ev_int; apply ev_var; exact lk_hd; kernel_rfl!; apply op_pow)
    exact leI (by kernel_rfl!); exact leI (by kernel_rfl!)
    kernel_rfl!
    intros
    (with_reducible kernel_rfl!; apply xk_nxt; apply xs_seq; apply x1_wh; apply wh_step; apply ts_cmp; apply ev_var; apply lk_tl; kernel_rfl!; apply lk_tl; kernel_rfl!; apply lk_tl; kernel_rfl!; apply lk_tl; kernel_rfl!; apply lk_tl; kernel_rfl!; apply lk_tl; kernel_rfl!; apply lk_tl; kernel_rfl!; apply lk_zip; exact lk_hd; kernel_rfl!; apply ev_var; exact lk_hd; kernel_rfl!; apply op_geI)
    exact isT (by kernel_rfl!)
    (with_reducible kernel_rfl!; apply whk_t; apply xs_seq; apply x1_swap2; apply ev_tup; apply evs_cons; apply ev_bin; apply ev_var; apply lk_tl; kernel_rfl!; apply lk_tl; kernel_rfl!; apply lk_tl; kernel_rfl!; apply lk_tl; kernel_rfl!; apply lk_tl; kernel_rfl!; apply lk_tl; kernel_rfl!; apply lk_tl; kernel_rfl!; apply lk_zip; exact lk_hd; kernel_rfl!; apply ev_var; exact lk_hd; kernel_rfl!; apply op_fdiv)
    decide
    (with_reducible kernel_rfl!; apply evs_cons; apply ev_bin; apply ev_var; apply lk_tl; kernel_rfl!; apply lk_tl; kernel_rfl!; apply lk_tl; kernel_rfl!; apply lk_tl; kernel_rfl!; apply lk_tl; kernel_rfl!; apply lk_tl; kernel_rfl!; exact lk_hd; kernel_rfl!; apply ev_var; apply lk_tl; kernel_rfl!; exact lk_hd; kernel_rfl!; exact op_add; exact evs_nil)
    intros
    kernel_rfl!
    intros
    kernel_rfl!
    exact leT (by kernel_rfl!)
    (with_reducible kernel_rfl!; kernel_rfl!)
    intro env h; cases env; subst h
    (with_reducible kernel_rfl!; apply xk_nxt; exact xs_nil; apply wh_step; apply ts_cmp; apply ev_var; exact lk_hd; kernel_rfl!; apply ev_var; apply lk_tl; kernel_rfl!; apply lk_tl; kernel_rfl!; exact lk_hd; kernel_rfl!; apply op_geI)
    exact isT (by kernel_rfl!)
    (with_reducible kernel_rfl!; apply whk_t; apply xs_seq; apply x1_swap2; apply ev_tup; apply evs_cons; apply ev_bin; apply ev_var; exact lk_hd; kernel_rfl!; apply ev_var; apply lk_tl; kernel_rfl!; apply lk_tl; kernel_rfl!; exact lk_hd; kernel_rfl!; apply op_fdiv)
    decide
    (with_reducible kernel_rfl!; apply evs_cons; apply ev_bin; apply ev_var; apply lk_tl; kernel_rfl!; exact lk_hd; kernel_rfl!; apply ev_var; apply lk_tl; kernel_rfl!; apply lk_tl; kernel_rfl!; apply lk_tl; kernel_rfl!; exact lk_hd; kernel_rfl!; exact op_add; exact evs_nil)
    intros
    kernel_rfl!
    intros
    kernel_rfl!
    exact leT (by kernel_rfl!)
    (with_reducible kernel_rfl!; kernel_rfl!)
    intro env h; cases env; subst h
    (with_reducible kernel_rfl!; apply xk_nxt; exact xs_nil; apply wh_step; apply ts_cmp; apply ev_var; exact lk_hd; kernel_rfl!; apply ev_var; apply lk_tl; kernel_rfl!; apply lk_tl; kernel_rfl!; apply lk_tl; kernel_rfl!; apply lk_tl; kernel_rfl!; exact lk_hd; kernel_rfl!; apply op_geI)
    exact isF (by kernel_rfl!)
    (with_reducible kernel_rfl!; exact whk_f; apply xk_nxt; exact xs_nil; exact Lp.nil)
    intros
    (with_reducible kernel_rfl!; apply xk_nxt; apply xs_seq; apply x1_return; apply ev_bin; apply ev_var; apply lk_tl; kernel_rfl!; exact lk_hd; kernel_rfl!; apply ev_var; exact lk_hd; kernel_rfl!; exact op_add; exact xk_ret)
  · kernel_rfl!
theorem c_bits6 (F : Fa W) : CallOK W 1 (Str.ofString "bits_of") [.int 6] (.int 3) := by
  refine call_ok' (k := 4) (ps := [Str.ofString "n"]) (d' := ?d) rfl (by decide) rfl rfl (by kernel_rfl!) (fun _ _ _ => len1 fun _ => by kernel_rfl!) ?_ ?_
  rotate_left
  · conv => arg 5; whnf
    (with_reducible apply xs_seq; apply x1_assign; exact ev_int; kernel_rfl!)
    intros
    (with_reducible kernel_rfl!; apply xk_nxt; apply xs_seq; apply x1_for; apply ev_tup; apply evs_cons; exact ev_int; apply evs_cons; exact ev_int; apply evs_cons; exact ev_int; exact evs_nil)
    intros
    kernel_rfl!
    intros
    kernel_rfl!
    intros
    kernel_rfl!
    exact leT (by kernel_rfl!)
    (with_reducible exact itr_tup; kernel_rfl!; apply Lp.cons; apply xs_seq; apply x1_assign; apply ev_bin; exact ev_int; apply ev_var; exact lk_hd; kernel_rfl!; apply op_pow)
    exact leI (by kernel_rfl!); exact leI (by kernel_rfl!)
    kernel_rfl!
    intros
    (with_reducible kernel_rfl!; apply xk_nxt; apply xs_seq; apply x1_wh; apply wh_step; apply ts_cmp; apply ev_var; apply lk_tl; kernel_rfl!; apply lk_tl; kernel_rfl!; apply lk_tl; kernel_rfl!; apply lk_zip; exact lk_hd; kernel_rfl!; apply ev_var; exact lk_hd; kernel_rfl!; apply op_geI)
    exact isF (by kernel_rfl!)
    (with_reducible kernel_rfl!; exact whk_f; apply xk_nxt; exact xs_nil; apply Lp.cons; apply xs_seq; apply x1_assign; apply ev_bin; exact ev_int; apply ev_var; exact lk_hd; kernel_rfl!; apply op_pow)
    exact leI (by kernel_rfl!); exact leI (by kernel_rfl!)
    kernel_rfl!
    intros
    (with_reducible kernel_rfl!; apply xk_nxt; apply xs_seq; apply x1_wh; apply wh_step; apply ts_cmp; apply ev_var; apply lk_tl; kernel_rfl!; apply lk_tl; kernel_rfl!; apply lk_tl; kernel_rfl!; apply lk_tl; kernel_rfl!; apply lk_tl; kernel_rfl!; apply lk_zip; exact lk_hd; kernel_rfl!; apply ev_var; exact lk_hd; kernel_rfl!; apply op_geI)
    exact isF (by kernel_rfl!)
    (with_reducible kernel_rfl!; exact whk_f; apply xk_nxt; exact xs_nil; apply Lp.cons; apply xs_seq; apply x1_assign; apply ev_bin; exact ev_int; apply ev_var; exact lk_hd; kernel_rfl!; apply op_pow)
    exact leI (by kernel_rfl!); exact leI (by kernel_rfl!)
    kernel_rfl!
    intros
    (with_reducible kernel_rfl!; apply xk_nxt; apply xs_seq; apply x1_wh; apply wh_step; apply ts_cmp; apply ev_var; apply lk_tl; kernel_rfl!; apply lk_tl; kernel_rfl!; apply lk_tl; kernel_rfl!; apply lk_tl; kernel_rfl!; apply lk_tl; kernel_rfl!; apply lk_tl; kernel_rfl!; apply lk_tl; kernel_rfl!; apply lk_zip; exact lk_hd; kernel_rfl!; apply ev_var; exact lk_hd; kernel_rfl!; apply op_geI)
    exact isT (by kernel_rfl!)
    (with_reducible kernel_rfl!; apply whk_t; apply xs_seq; apply x1_swap2; apply ev_tup; apply evs_cons; apply ev_bin; apply ev_var; apply lk_tl; kernel_rfl!; apply lk_tl; kernel_rfl!; apply lk_tl; kernel_rfl!; apply lk_tl; kernel_rfl!; apply lk_tl; kernel_rfl!; apply lk_tl; kernel_rfl!; apply lk_tl; kernel_rfl!; apply lk_zip; exact lk_hd; kernel_rfl!; apply ev_var; exact lk_hd; kernel_rfl!; apply op_fdiv)
    decide
    (with_reducible kernel_rfl!; apply evs_cons; apply ev_bin; apply ev_var; apply lk_tl; kernel_rfl!; apply lk_tl; kernel_rfl!; apply lk_tl; kernel_rfl!; apply lk_tl; kernel_rfl!; apply lk_tl; kernel_rfl!; apply lk_tl; kernel_rfl!; exact lk_hd; kernel_rfl!; apply ev_var; apply lk_tl; kernel_rfl!; exact lk_hd; kernel_rfl!; exact op_add; exact evs_nil)
    intros
    kernel_rfl!
    intros
    kernel_rfl!
    exact leT (by kernel_rfl!)
    (with_reducible kernel_rfl!; kernel_rfl!)
    intro env h; cases env; subst h
    (with_reducible kernel_rfl!; apply xk_nxt; exact xs_nil; apply wh_step; apply ts_cmp; apply ev_var; exact lk_hd; kernel_rfl!; apply ev_var; apply lk_tl; kernel_rfl!; apply lk_tl; kernel_rfl!; exact lk_hd; kernel_rfl!; apply op_geI)
    exact isT (by kernel_rfl!)
    (with_reducible kernel_rfl!; apply whk_t; apply xs_seq; apply x1_swap2; apply ev_tup; apply evs_cons; apply ev_bin; apply ev_var; exact lk_hd; kernel_rfl!; apply ev_var; apply lk_tl; kernel_rfl!; apply lk_tl; kernel_rfl!; exact lk_hd; kernel_rfl!; apply op_fdiv)
    decide
    (with_reducible kernel_rfl!; apply evs_cons; apply ev_bin; apply ev_var; apply lk_tl; kernel_rfl!; exact lk_hd; kernel_rfl!; apply ev_var; apply lk_tl; kernel_rfl!; apply lk_tl; kernel_rfl!; apply lk_tl; kernel_rfl!; exact lk_hd; kernel_rfl!; exact op_add; exact evs_nil)
    intros
    kernel_rfl!
    intros
    kernel_rfl!
    exact leT (by kernel_rfl!)
    (with_reducible kernel_rfl!; kernel_rfl!)
    intro env h; cases env; subst h
    (with_reducible kernel_rfl!; apply xk_nxt; exact xs_nil; apply wh_step; apply ts_cmp; apply ev_var; exact lk_hd; kernel_rfl!; apply ev_var; apply lk_tl; kernel_rfl!; apply lk_tl; kernel_rfl!; apply lk_tl; kernel_rfl!; apply lk_tl; kernel_rfl!; exact lk_hd; kernel_rfl!; apply op_geI)
    exact isF (by kernel_rfl!)
    (with_reducible kernel_rfl!; exact whk_f; apply xk_nxt; exact xs_nil; exact Lp.nil)
    intros
    (with_reducible kernel_rfl!; apply xk_nxt; apply xs_seq; apply x1_return; apply ev_bin; apply ev_var; apply lk_tl; kernel_rfl!; exact lk_hd; kernel_rfl!; apply ev_var; exact lk_hd; kernel_rfl!; exact op_add; exact xk_ret)
  · kernel_rfl!
theorem c_bits7 (F : Fa W) : CallOK W 1 (Str.ofString "bits_of") [.int 7] (.int 3) := by
  refine call_ok' (k := 4) (ps := [Str.ofString "n"]) (d' := ?d) rfl (by decide) rfl rfl (by kernel_rfl!) (fun _ _ _ => len1 fun _ => by kernel_rfl!) ?_ ?_
  rotate_left
  · conv => arg 5; whnf
    (with_reducible apply xs_seq; apply x1_assign; exact ev_int; kernel_rfl!)
    intros
    (with_reducible kernel_rfl!; apply xk_nxt; apply xs_seq; apply x1_for; apply ev_tup; apply evs_cons; exact ev_int; apply evs_cons; exact ev_int; apply evs_cons; exact ev_int; exact evs_nil)
    intros
    kernel_rfl!
    intros
    kernel_rfl!
    intros
    kernel_rfl!
    exact leT (by kernel_rfl!)
    (with_reducible exact itr_tup; kernel_rfl!; apply Lp.cons; apply xs_seq; apply x1_assign; apply ev_bin; exact ev_int; apply ev_var; exact lk_hd; kernel_rfl!; apply op_pow)
    exact leI (by kernel_rfl!); exact leI (by kernel_rfl!)
    kernel_rfl!
    intros
    (with_reducible kernel_rfl!; apply xk_nxt; apply xs_seq; apply x1_wh; apply wh_step; apply ts_cmp; apply ev_var; apply lk_tl; kernel_rfl!; apply lk_tl; kernel_rfl!; apply lk_tl; kernel_rfl!; apply lk_zip; exact lk_hd; kernel_rfl!; apply ev_var; exact lk_hd; kernel_rfl!; apply op_geI)
    exact isF (by kernel_rfl!)
    (with_reducible kernel_rfl!; exact whk_f; apply xk_nxt; exact xs_nil; apply Lp.cons; apply xs_seq; apply x1_assign; apply ev_bin; exact ev_int; apply ev_var; exact lk_hd; kernel_rfl!; apply op_pow)
    exact leI (by kernel_rfl!); exact leI (by kernel_rfl!)
    kernel_rfl!
    intros
    (with_reducible kernel_rfl!; apply xk_nxt; apply xs_seq; apply x1_wh; apply wh_step; apply ts_cmp; apply ev_var; apply lk_tl; kernel_rfl!; apply lk_tl; kernel_rfl!; apply lk_tl; kernel_rfl!; apply lk_tl; kernel_rfl!; apply lk_tl; kernel_rfl!; apply lk_zip; exact lk_hd; kernel_rfl!; apply ev_var; exact lk_hd; kernel_rfl!; apply op_geI)
    exact isF (by kernel_rfl!)
    (with_reducible kernel_rfl!; exact whk_f; apply xk_nxt; exact xs_nil; apply Lp.cons; apply xs_seq; apply x1_assign; apply ev_bin; exact ev_int; apply ev_var; exact lk_hd; kernel_rfl!; apply op_pow)
    exact leI (by kernel_rfl!); exact leI (by kernel_rfl!)
    kernel_rfl!
    intros
    (with_reducible kernel_rfl!; apply xk_nxt; apply xs_seq; apply x1_wh; apply wh_step; apply ts_cmp; apply ev_var; apply lk_tl; kernel_rfl!; apply lk_tl; kernel_rfl!; apply lk_tl; kernel_rfl!; apply lk_tl; kernel_rfl!; apply lk_tl; kernel_rfl!; apply lk_tl; kernel_rfl!; apply lk_tl; kernel_rfl!; apply lk_zip; exact lk_hd; kernel_rfl!; apply ev_var; exact lk_hd; kernel_rfl!; apply op_geI)
    exact isT (by kernel_rfl!)
    (with_reducible kernel_rfl!; apply whk_t; apply xs_seq; apply x1_swap2; apply ev_tup; apply evs_cons; apply ev_bin; apply ev_var; apply lk_tl; kernel_rfl!; apply lk_tl; kernel_rfl!; apply lk_tl; kernel_rfl!; apply lk_tl; kernel_rfl!; apply lk_tl; kernel_rfl!; apply lk_tl; kernel_rfl!; apply lk_tl; kernel_rfl!; apply lk_zip; exact lk_hd; kernel_rfl!; apply ev_var; exact lk_hd; kernel_rfl!; apply op_fdiv)
    decide
    (with_reducible kernel_rfl!; apply evs_cons; apply ev_bin; apply ev_var; apply lk_tl; kernel_rfl!; apply lk_tl; kernel_rfl!; apply lk_tl; kernel_rfl!; apply lk_tl; kernel_rfl!; apply lk_tl; kernel_rfl!; apply lk_tl; kernel_rfl!; exact lk_hd; kernel_rfl!; apply ev_var; apply lk_tl; kernel_rfl!; exact lk_hd; kernel_rfl!; exact op_add; exact evs_nil)
    intros
    kernel_rfl!
    intros
    kernel_rfl!
    exact leT (by kernel_rfl!)
    (with_reducible kernel_rfl!; kernel_rfl!)
    intro env h; cases env; subst h
    (with_reducible kernel_rfl!; apply xk_nxt; exact xs_nil; apply wh_step; apply ts_cmp; apply ev_var; exact lk_hd; kernel_rfl!; apply ev_var; apply lk_tl; kernel_rfl!; apply lk_tl; kernel_rfl!; exact lk_hd; kernel_rfl!; apply op_geI)
    exact isT (by kernel_rfl!)
    (with_reducible kernel_rfl!; apply whk_t; apply xs_seq; apply x1_swap2; apply ev_tup; apply evs_cons; apply ev_bin; apply ev_var; exact lk_hd; kernel_rfl!; apply ev_var; apply lk_tl; kernel_rfl!; apply lk_tl; kernel_rfl!; exact lk_hd; kernel_rfl!; apply op_fdiv)
    decide
    (with_reducible kernel_rfl!; apply evs_cons; apply ev_bin; apply ev_var; apply lk_tl; kernel_rfl!; exact lk_hd; kernel_rfl!; apply ev_var; apply lk_tl; kernel_rfl!; apply lk_tl; kernel_rfl!; apply lk_tl; kernel_rfl!; exact lk_hd; kernel_rfl!; exact op_add; exact evs_nil)
    intros
    kernel_rfl!
    intros
    kernel_rfl!
    exact leT (by kernel_rfl!)
    (with_reducible kernel_rfl!; kernel_rfl!)
    intro env h; cases env; subst h
    (with_reducible kernel_rfl!; apply xk_nxt; exact xs_nil; apply wh_step; apply ts_cmp; apply ev_var; exact lk_hd; kernel_rfl!; apply ev_var; apply lk_tl; kernel_rfl!; apply lk_tl; kernel_rfl!; apply lk_tl; kernel_rfl!; apply lk_tl; kernel_rfl!; exact lk_hd; kernel_rfl!; apply op_geI)
    exact isF (by kernel_rfl!)
    (with_reducible kernel_rfl!; exact whk_f; apply xk_nxt; exact xs_nil; exact Lp.nil)
    intros
    (with_reducible kernel_rfl!; apply xk_nxt; apply xs_seq; apply x1_return; apply ev_bin; apply ev_var; apply lk_tl; kernel_rfl!; exact lk_hd; kernel_rfl!; apply ev_var; exact lk_hd; kernel_rfl!; exact op_add; exact xk_ret)
  · kernel_rfl!
theorem c_bits8 (F : Fa W) : CallOK W 1 (Str.ofString "bits_of") [.int 8] (.int 4) := by
  refine call_ok' (k := 4) (ps := [Str.ofString "n"]) (d' := ?d) rfl (by decide) rfl rfl (by kernel_rfl!) (fun _ _ _ => len1 fun _ => by kernel_rfl!) ?_ ?_
  rotate_left
  · conv => arg 5; whnf
    (with_reducible apply xs_seq; apply x1_assign; exact ev_int; kernel_rfl!)
    intros
    (with_reducible kernel_rfl!; apply xk_nxt; apply xs_seq; apply x1_for; apply ev_tup; apply evs_cons; exact ev_int; apply evs_cons; exact ev_int; apply evs_cons; exact ev_int; exact evs_nil)
    intros
    kernel_rfl!
    intros
    kernel_rfl!
    intros
    kernel_rfl!
    exact leT (by kernel_rfl!)
    (with_reducible exact itr_tup; kernel_rfl!; apply Lp.cons; apply xs_seq; apply x1_assign; apply ev_bin; exact ev_int; apply ev_var; exact lk_hd; kernel_rfl!; apply op_pow)
    exact leI (by kernel_rfl!); exact leI (by kernel_rfl!)
    kernel_rfl!
    intros
    (with_reducible kernel_rfl!; apply xk_nxt; apply xs_seq; apply x1_wh; apply wh_step; apply ts_cmp; apply ev_var; apply lk_tl; kernel_rfl!; apply lk_tl; kernel_rfl!; apply lk_tl; kernel_rfl!; apply lk_zip; exact lk_hd; kernel_rfl!; apply ev_var; exact lk_hd; kernel_rfl!; apply op_geI)
    exact isF (by kernel_rfl!)
    (with_reducible kernel_rfl!; exact whk_f; apply xk_nxt; exact xs_nil; apply Lp.cons; apply xs_seq; apply x1_assign; apply ev_bin; exact ev_int; apply ev_var; exact lk_hd; kernel_rfl!; apply op_pow)
    exact leI (by kernel_rfl!); exact leI (by kernel_rfl!)
    kernel_rfl!
    intros
    (with_reducible kernel_rfl!; apply xk_nxt; apply xs_seq; apply x1_wh; apply wh_step; apply ts_cmp; apply ev_var; apply lk_tl; kernel_rfl!; apply lk_tl; kernel_rfl!; apply lk_tl; kernel_rfl!; apply lk_tl; kernel_rfl!; apply lk_tl; kernel_rfl!; apply lk_zip; exact lk_hd; kernel_rfl!; apply ev_var; exact lk_hd; kernel_rfl!; apply op_geI)
    exact isF (by kernel_rfl!)
    (with_reducible kernel_rfl!; exact whk_f; apply xk_nxt; exact xs_nil; apply Lp.cons; apply xs_seq; apply x1_assign; apply ev_bin; exact ev_int; apply ev_var; exact lk_hd; kernel_rfl!; apply op_pow)
    exact leI (by kernel_rfl!); exact leI (by kernel_rfl!)
    kernel_rfl!
    intros
    (with_reducible kernel_rfl!; apply xk_nxt; apply xs_seq; apply x1_wh; apply wh_step; apply ts_cmp; apply ev_var; apply lk_tl; kernel_rfl!; apply lk_tl; kernel_rfl!; apply lk_tl; kernel_rfl!; apply lk_tl; kernel_rfl!; apply lk_tl; kernel_rfl!; apply lk_tl; kernel_rfl!; apply lk_tl; kernel_rfl!; apply lk_zip; exact lk_hd; kernel_rfl!; apply ev_var; exact lk_hd; kernel_rfl!; apply op_geI)
    exact isT (by kernel_rfl!)
    (with_reducible kernel_rfl!; apply whk_t; apply xs_seq; apply x1_swap2; apply ev_tup; apply evs_cons; apply ev_bin; apply ev_var; apply lk_tl; kernel_rfl!; apply lk_tl; kernel_rfl!; apply lk_tl; kernel_rfl!; apply lk_tl; kernel_rfl!; apply lk_tl; kernel_rfl!; apply lk_tl; kernel_rfl!; apply lk_tl; kernel_rfl!; apply lk_zip; exact lk_hd; kernel_rfl!; apply ev_var; exact lk_hd; kernel_rfl!; apply op_fdiv)
    decide
    (with_reducible kernel_rfl!; apply evs_cons; apply ev_bin; apply ev_var; apply lk_tl; kernel_rfl!; apply lk_tl; kernel_rfl!; apply lk_tl; kernel_rfl!; apply lk_tl; kernel_rfl!; apply lk_tl; kernel_rfl!; apply lk_tl; kernel_rfl!; exact lk_hd; kernel_rfl!; apply ev_var; apply lk_tl; kernel_rfl!; exact lk_hd; kernel_rfl!; exact op_add; exact evs_nil)
    intros
    kernel_rfl!
    intros
    kernel_rfl!
    exact leT (by kernel_rfl!)
    (with_reducible kernel_rfl!; kernel_rfl!)
    intro env h; cases env; subst h
    (with_reducible kernel_rfl!; apply xk_nxt; exact xs_nil; apply wh_step; apply ts_cmp; apply ev_var; exact lk_hd; kernel_rfl!; apply ev_var; apply lk_tl; kernel_rfl!; apply lk_tl; kernel_rfl!; exact lk_hd; kernel_rfl!; apply op_geI)
    exact isT (by kernel_rfl!)
    (with_reducible kernel_rfl!; apply whk_t; apply xs_seq; apply x1_swap2; apply ev_tup; apply evs_cons; apply ev_bin; apply ev_var; exact lk_hd; kernel_rfl!; apply ev_var; apply lk_tl; kernel_rfl!; apply lk_tl; kernel_rfl!; exact lk_hd; kernel_rfl!; apply op_fdiv)
    decide
    (with_reducible kernel_rfl!; apply evs_cons; apply ev_bin; apply ev_var; apply lk_tl; kernel_rfl!; exact lk_hd; kernel_rfl!; apply ev_var; apply lk_tl; kernel_rfl!; apply lk_tl; kernel_rfl!; apply lk_tl; kernel_rfl!; exact lk_hd; kernel_rfl!; exact op_add; exact evs_nil)
    intros
    kernel_rfl!
    intros
    kernel_rfl!
    exact leT (by kernel_rfl!)
    (with_reducible kernel_rfl!; kernel_rfl!)
    intro env h; cases env; subst h
    (with_reducible kernel_rfl!; apply xk_nxt; exact xs_nil; apply wh_step; apply ts_cmp; apply ev_var; exact lk_hd; kernel_rfl!; apply ev_var; apply lk_tl; kernel_rfl!; apply lk_tl; kernel_rfl!; apply lk_tl; kernel_rfl!; apply lk_tl; kernel_rfl!; exact lk_hd; kernel_rfl!; apply op_geI)
    exact isT (by kernel_rfl!)
    (with_reducible kernel_rfl!; apply whk_t; apply xs_seq; apply x1_swap2; apply ev_tup; apply evs_cons; apply ev_bin; apply ev_var; exact lk_hd; kernel_rfl!; apply ev_var; apply lk_tl; kernel_rfl!; apply lk_tl; kernel_rfl!; apply lk_tl; kernel_rfl!; apply lk_tl; kernel_rfl!; exact lk_hd; kernel_rfl!; apply op_fdiv)
    decide
    (with_reducible kernel_rfl!; apply evs_cons; apply ev_bin; apply ev_var; apply lk_tl; kernel_rfl!; exact lk_hd; kernel_rfl!; apply ev_var; apply lk_tl; kernel_rfl!; apply lk_tl; kernel_rfl!; apply lk_tl; kernel_rfl!; apply lk_tl; kernel_rfl!; apply lk_tl; kernel_rfl!; exact lk_hd; kernel_rfl!; exact op_add; exact evs_nil)
    intros
    kernel_rfl!
    intros
    kernel_rfl!
    exact leT (by kernel_rfl!)
    (with_reducible kernel_rfl!; kernel_rfl!)
    intro env h; cases env; subst h
    (with_reducible kernel_rfl!; apply xk_nxt; exact xs_nil; apply wh_step; apply ts_cmp; apply ev_var; exact lk_hd; kernel_rfl!; apply ev_var; apply lk_tl; kernel_rfl!; apply lk_tl; kernel_rfl!; apply lk_tl; kernel_rfl!; apply lk_tl; kernel_rfl!; apply lk_tl; kernel_rfl!; apply lk_tl; kernel_rfl!; exact lk_hd; kernel_rfl!; apply op_geI)
    exact isF (by kernel_rfl!)
    (with_reducible kernel_rfl!; exact whk_f; apply xk_nxt; exact xs_nil; exact Lp.nil)
    intros
    (with_reducible kernel_rfl!; apply xk_nxt; apply xs_seq; apply x1_return; apply ev_bin; apply ev_var; apply lk_tl; kernel_rfl!; exact lk_hd; kernel_rfl!; apply ev_var; exact lk_hd; kernel_rfl!; exact op_add; exact xk_ret)
  · kernel_rfl!
theorem c_bits9 (F : Fa W) : CallOK W 1 (Str.ofString "bits_of") [.int 9] (.int 4) := by
  refine call_ok' (k := 4) (ps := [Str.ofString "n"]) (d' := ?d) rfl (by decide) rfl rfl (by kernel_rfl!) (fun _ _ _ => len1 fun _ => by kernel_rfl!) ?_ ?_
  rotate_left
  · conv => arg 5; whnf
    (with_reducible apply xs_seq; apply x1_assign; exact ev_int; kernel_rfl!)
    intros
    (with_reducible kernel_rfl!; apply xk_nxt; apply xs_seq; apply x1_for; apply ev_tup; apply evs_cons; exact ev_int; apply evs_cons; exact ev_int; apply evs_cons; exact ev_int; exact evs_nil)
    intros
    kernel_rfl!
    intros
    kernel_rfl!
    intros
    kernel_rfl!
    exact leT (by kernel_rfl!)
    (with_reducible exact itr_tup; kernel_rfl!; apply Lp.cons; apply xs_seq; apply x1_assign; apply ev_bin; exact ev_int; apply ev_var; exact lk_hd; kernel_rfl!; apply op_pow)
    exact leI (by kernel_rfl!); exact leI (by kernel_rfl!)
    kernel_rfl!
    intros
    (with_reducible kernel_rfl!; apply xk_nxt; apply xs_seq; apply x1_wh; apply wh_step; apply ts_cmp; apply ev_var; apply lk_tl; kernel_rfl!; apply lk_tl; kernel_rfl!; apply lk_tl; kernel_rfl!; apply lk_zip; exact lk_hd; kernel_rfl!; apply ev_var; exact lk_hd; kernel_rfl!; apply op_geI)
    exact isF (by kernel_rfl!)
    (with_reducible kernel_rfl!; exact whk_f; apply xk_nxt; exact xs_nil; apply Lp.cons; apply xs_seq; apply x1_assign; apply ev_bin; exact ev_int; apply ev_var; exact lk_hd; kernel_rfl!; apply op_pow)
    exact leI (by kernel_rfl!); exact leI (by kernel_rfl!)
    kernel_rfl!
    intros
    (with_reducible kernel_rfl!; apply xk_nxt; apply xs_seq; apply x1_wh; apply wh_step; apply ts_cmp; apply ev_var; apply lk_tl; kernel_rfl!; apply lk_tl; kernel_rfl!; apply lk_tl; kernel_rfl!; apply lk_tl; kernel_rfl!; apply lk_tl; kernel_rfl!; apply lk_zip; exact lk_hd; kernel_rfl!; apply ev_var; exact lk_hd; kernel_rfl!; apply op_geI)
    exact isF (by kernel_rfl!)
    (with_reducible kernel_rfl!; exact whk_f; apply xk_nxt; exact xs_nil; apply Lp.cons; apply xs_seq; apply x1_assign; apply ev_bin; exact ev_int; apply ev_var; exact lk_hd; kernel_rfl!; apply op_pow)
    exact leI (by kernel_rfl!); exact leI (by kernel_rfl!)
    kernel_rfl!
    intros
    (with_reducible kernel_rfl!; apply xk_nxt; apply xs_seq; apply x1_wh; apply wh_step; apply ts_cmp; apply ev_var; apply lk_tl; kernel_rfl!; apply lk_tl; kernel_rfl!; apply lk_tl; kernel_rfl!; apply lk_tl; kernel_rfl!; apply lk_tl; kernel_rfl!; apply lk_tl; kernel_rfl!; apply lk_tl; kernel_rfl!; apply lk_zip; exact lk_hd; kernel_rfl!; apply ev_var; exact lk_hd; kernel_rfl!; apply op_geI)
    exact isT (by kernel_rfl!)
    (with_reducible kernel_rfl!; apply whk_t; apply xs_seq; apply x1_swap2; apply ev_tup; apply evs_cons; apply ev_bin; apply ev_var; apply lk_tl; kernel_rfl!; apply lk_tl; kernel_rfl!; apply lk_tl; kernel_rfl!; apply lk_tl; kernel_rfl!; apply lk_tl; kernel_rfl!; apply lk_tl; kernel_rfl!; apply lk_tl; kernel_rfl!; apply lk_zip; exact lk_hd; kernel_rfl!; apply ev_var; exact lk_hd; kernel_rfl!; apply op_fdiv)
    decide
    (with_reducible kernel_rfl!; apply evs_cons; apply ev_bin; apply ev_var; apply lk_tl; kernel_rfl!; apply lk_tl; kernel_rfl!; apply lk_tl; kernel_rfl!; apply lk_tl; kernel_rfl!; apply lk_tl; kernel_rfl!; apply lk_tl; kernel_rfl!; exact lk_hd; kernel_rfl!; apply ev_var; apply lk_tl; kernel_rfl!; exact lk_hd; kernel_rfl!; exact op_add; exact evs_nil)
    intros
    kernel_rfl!
    intros
    kernel_rfl!
    exact leT (by kernel_rfl!)
    (with_reducible kernel_rfl!; kernel_rfl!)
    intro env h; cases env; subst h
    (with_reducible kernel_rfl!; apply xk_nxt; exact xs_nil; apply wh_step; apply ts_cmp; apply ev_var; exact lk_hd; kernel_rfl!; apply ev_var; apply lk_tl; kernel_rfl!; apply lk_tl; kernel_rfl!; exact lk_hd; kernel_rfl!; apply op_geI)
    exact isT (by kernel_rfl!)
    (with_reducible kernel_rfl!; apply whk_t; apply xs_seq; apply x1_swap2; apply ev_tup; apply evs_cons; apply ev_bin; apply ev_var; exact lk_hd; kernel_rfl!; apply ev_var; apply lk_tl; kernel_rfl!; apply lk_tl; kernel_rfl!; exact lk_hd; kernel_rfl!; apply op_fdiv)
    decide
    (with_reducible kernel_rfl!; apply evs_cons; apply ev_bin; apply ev_var; apply lk_tl; kernel_rfl!; exact lk_hd; kernel_rfl!; apply ev_var; apply lk_tl; kernel_rfl!; apply lk_tl; kernel_rfl!; apply lk_tl; kernel_rfl!; exact lk_hd; kernel_rfl!; exact op_add; exact evs_nil)
    intros
    kernel_rfl!
    intros
    kernel_rfl!
    exact leT (by kernel_rfl!)
    (with_reducible kernel_rfl!; kernel_rfl!)
    intro env h; cases env; subst h
    (with_reducible kernel_rfl!; apply xk_nxt; exact xs_nil; apply wh_step; apply ts_cmp; apply ev_var; exact lk_hd; kernel_rfl!; apply ev_var; apply lk_tl; kernel_rfl!; apply lk_tl; kernel_rfl!; apply lk_tl; kernel_rfl!; apply lk_tl; kernel_rfl!; exact lk_hd; kernel_rfl!; apply op_geI)
    exact isT (by kernel_rfl!)
    (with_reducible kernel_rfl!; apply whk_t; apply xs_seq; apply x1_swap2; apply ev_tup; apply evs_cons; apply ev_bin; apply ev_var; exact lk_hd; kernel_rfl!; apply ev_var; apply lk_tl; kernel_rfl!; apply lk_tl; kernel_rfl!; apply lk_tl; kernel_rfl!; apply lk_tl; kernel_rfl!; exact lk_hd; kernel_rfl!; apply op_fdiv)
    decide
    (with_reducible kernel_rfl!; apply evs_cons; apply ev_bin; apply ev_var; apply lk_tl; kernel_rfl!; exact lk_hd; kernel_rfl!; apply ev_var; apply lk_tl; kernel_rfl!; apply lk_tl; kernel_rfl!; apply lk_tl; kernel_rfl!; apply lk_tl; kernel_rfl!; apply lk_tl; kernel_rfl!; exact lk_hd; kernel_rfl!; exact op_add; exact evs_nil)
    intros
    kernel_rfl!
    intros
    kernel_rfl!
    exact leT (by kernel_rfl!)
    (with_reducible kernel_rfl!; kernel_rfl!)
    intro env h; cases env; subst h
    (with_reducible kernel_rfl!; apply xk_nxt; exact xs_nil; apply wh_step; apply ts_cmp; apply ev_var; exact lk_hd; kernel_rfl!; apply ev_var; apply lk_tl; kernel_rfl!; apply lk_tl; kernel_rfl!; apply lk_tl; kernel_rfl!; apply lk_tl; kernel_rfl!; apply lk_tl; kernel_rfl!; apply lk_tl; kernel_rfl!; exact lk_hd; kernel_rfl!; apply op_geI)
    exact isF (by kernel_rfl!)
    (with_reducible kernel_rfl!; exact whk_f; apply xk_nxt; exact xs_nil; exact Lp.nil)
    intros
    (with_reducible kernel_rfl!; apply xk_nxt; apply xs_seq; apply x1_return; apply ev_bin; apply ev_var; apply lk_tl; kernel_rfl!; exact lk_hd; kernel_rfl!; apply ev_var; exact lk_hd; kernel_rfl!; exact op_add; exact xk_ret)
  · kernel_rfl!
abbrev mxa (x : Int) : Int := if 1 > (if x < 0 then -x else x) then 1 else (if x < 0 then -x else x)
theorem c_bits (F : Fa W) (x : Int) (h0 : -9 ≤ x) (h1 : x ≤ 9) : ∃ r : Int, r ≤ 100 ∧ CallOK W 1 (Str.ofString "bits_of") [.int (mxa x)] (.int r) := by
  have h : mxa x = 1 ∨ mxa x = 2 ∨ mxa x = 3 ∨ mxa x = 4 ∨ mxa x = 5 ∨ mxa x = 6 ∨ mxa x = 7 ∨ mxa x = 8 ∨ mxa x = 9 := by
    unfold mxa; split <;> split <;> omega
  rcases h with h | h | h | h | h | h | h | h | h <;> rw [h]
  · exact ⟨1, by decide, c_bits1 F⟩
  · exact ⟨2, by decide, c_bits2 F⟩
  · exact ⟨2, by decide, c_bits3 F⟩
  · exact ⟨3, by decide, c_bits4 F⟩
  · exact ⟨3, by decide, c_bits5 F⟩
  · exact ⟨3, by decide, c_bits6 F⟩
  · exact ⟨3, by decide, c_bits7 F⟩
  · exact ⟨4, by decide, c_bits8 F⟩
  · exact ⟨4, by decide, c_bits9 F⟩
theorem c_greatF (F : Fa W) (hn : W.hn = true) (m c l k : Int) (m0 : -9 ≤ m) (m1 : m ≤ 9) (c0 : -9 ≤ c) (c1 : c ≤ 9) (l0 : -9 ≤ l) (l1 : l ≤ 9) (k0 : -9 ≤ k) (k1 : k ≤ 9) :
    CallOK W 2 (Str.ofString "is_too_great") [Pr [Nm m, Fc [Sm [Nm c, Pr [Nm (-1), Sm [Nm l, Nm 1]]]], Sm [Sm [Nm l, Nm 1], Nm k]], .int 120, .int 200000] (.bool false) := by
  obtain ⟨r1, a1, b1⟩ := c_bits F m m0 m1
  obtain ⟨r2, a2, b2⟩ := c_bits F c c0 c1
  obtain ⟨r3, a3, b3⟩ := c_bits F l l0 l1
  obtain ⟨r4, a4, b4⟩ := c_bits F k k0 k1
  have b5 : CallOK W 1 (Str.ofString "bits_of") [.int (if (1 : Int) > 1 then 1 else 1)] (.int 1) := c_bits1 F
  obtain ⟨r6, a6, b6⟩ := c_bits F (-1) (by decide) (by decide)
  refine call_ok' (k := 29) (ps := [Str.ofString "term", Str.ofString "most", Str.ofString "parts"]) (d' := ?d) rfl (by decide) rfl rfl (by kernel_rfl!) (fun _ _ _ => len3 fun _ _ _ => by kernel_rfl!) ?_ ?_
  rotate_left
  · conv => arg 5; whnf
    (with_reducible apply xs_seq; apply x1_swap3; apply ev_tup; apply evs_cons; apply ev_lst; apply evs_cons; apply ev_var; apply lk_zip; exact lk_hd; kernel_rfl!; exact evs_nil)
    intros
    kernel_rfl!
    exact leT (by kernel_rfl!)
    (with_reducible apply evs_cons; exact ev_int; apply evs_cons; exact ev_int; exact evs_nil)
    intros
    kernel_rfl!
    intros
    kernel_rfl!
    intros
    kernel_rfl!
    exact leT (by kernel_rfl!)
    (with_reducible kernel_rfl!; kernel_rfl!; kernel_rfl!)
    intro env h; cases env; subst h
    (with_reducible kernel_rfl!; apply xk_nxt; apply xs_seq; apply x1_wh; apply wh_step; apply ts_cmp; apply ev_call_bi; exact bi_len (by assumption); kernel_rfl!; kernel_rfl!; apply evs_cons; apply ev_var; exact lk_hd; kernel_rfl!; exact evs_nil)
    intros
    (with_reducible kernel_rfl!; apply cv_lenL; exact Len.l1)
    intros
    kernel_rfl!
    intros
    (with_reducible kernel_rfl!; exact ev_int; apply op_gtI)
    exact isT (by kernel_rfl!)
    (with_reducible kernel_rfl!; apply whk_t; apply xs_seq; apply x1_swap2; apply ev_tup; apply evs_cons; apply ev_bin; apply ev_var; apply lk_tl; kernel_rfl!; exact lk_hd; kernel_rfl!; exact ev_int; exact op_add; apply evs_cons; apply ev_bin; apply ev_var; apply lk_tl; kernel_rfl!; apply lk_tl; kernel_rfl!; exact lk_hd; kernel_rfl!; apply ev_call_bi; exact bi_len (by assumption); kernel_rfl!; kernel_rfl!; apply evs_cons; apply ev_var; exact lk_hd; kernel_rfl!; exact evs_nil)
    intros
    (with_reducible kernel_rfl!; apply cv_lenL; exact Len.l1)
    intros
    kernel_rfl!
    intros
    (with_reducible kernel_rfl!; exact op_add; exact evs_nil)
    intros
    kernel_rfl!
    intros
    kernel_rfl!
    exact leT (by kernel_rfl!)
    (with_reducible kernel_rfl!; kernel_rfl!)
    intro env h; cases env; subst h
    (with_reducible kernel_rfl!; apply xk_nxt; apply xs_seq; apply x1_if; apply ts_bool; apply tss_or; apply ts_cmp; apply ev_var; exact lk_hd; kernel_rfl!; apply ev_var; apply lk_tl; kernel_rfl!; apply lk_tl; kernel_rfl!; apply lk_tl; kernel_rfl!; apply lk_tl; kernel_rfl!; apply lk_tl; kernel_rfl!; apply lk_zip; apply lk_tl; kernel_rfl!; apply lk_zip; exact lk_hd; kernel_rfl!; apply op_gtI)
    exact isF (by kernel_rfl!)
    (with_reducible kernel_rfl!; apply aro_f; apply tss_or; apply ts_cmp; apply ev_var; apply lk_tl; kernel_rfl!; exact lk_hd; kernel_rfl!; apply ev_var; apply lk_tl; kernel_rfl!; apply lk_tl; kernel_rfl!; apply lk_tl; kernel_rfl!; apply lk_tl; kernel_rfl!; apply lk_tl; kernel_rfl!; apply lk_zip; apply lk_tl; kernel_rfl!; apply lk_zip; apply lk_tl; kernel_rfl!; apply lk_zip; exact lk_hd; kernel_rfl!; apply op_gtI)
    exact isF (by kernel_rfl!)
    (with_reducible kernel_rfl!; apply aro_f; exact tss_or_nil; apply ar_f; exact xs_nil; apply xk_nxt; apply xs_seq; apply x1_if; apply ts_cmp; apply ev_call_bi; exact bi_len (by assumption); kernel_rfl!; kernel_rfl!; apply evs_cons; apply ev_lc; apply ev_var; apply lk_tl; kernel_rfl!; apply lk_tl; kernel_rfl!; exact lk_hd; kernel_rfl!; exact itr_lst)
    exact cap0 (by kernel_rfl!)
    kernel_rfl!
    exact leT (by kernel_rfl!); intros
    (with_reducible kernel_rfl!; apply cp_step; apply If1.one; apply ts_bool; apply tss_and; apply ts_cmp; apply ev_at; apply ev_var; exact lk_hd; kernel_rfl!; exact ev_int; apply At.tup; exact Nth.n0)
    intros
    (with_reducible kernel_rfl!; exact ev_str; apply op_eqS)
    exact isF (by kernel_rfl!)
    (with_reducible kernel_rfl!; exact ara_f; apply cpk_f; exact Cp.nil; exact evs_nil)
    intros
    (with_reducible kernel_rfl!; apply cv_lenL; exact Len.l0)
    intros
    kernel_rfl!
    intros
    (with_reducible kernel_rfl!; exact ev_int; apply op_gtI)
    exact isF (by kernel_rfl!)
    (with_reducible kernel_rfl!; apply ar_f; exact xs_nil; apply xk_nxt; apply xs_seq; apply x1_if; apply ts_bool; apply tss_and; apply ts_cmp; apply ev_call_bi; exact bi_len (by assumption); kernel_rfl!; kernel_rfl!; apply evs_cons; apply ev_var; apply lk_tl; kernel_rfl!; apply lk_tl; kernel_rfl!; exact lk_hd; kernel_rfl!; exact evs_nil)
    intros
    (with_reducible kernel_rfl!; apply cv_lenL; exact Len.l1)
    intros
    kernel_rfl!
    intros
    (with_reducible kernel_rfl!; apply ev_con; exact Fa.narrow (by assumption); kernel_rfl!; kernel_rfl!; apply op_gtI)
    exact isF (by kernel_rfl!)
    (with_reducible kernel_rfl!; exact ara_f; apply ar_f; exact xs_nil; apply xk_nxt; apply xs_seq; apply x1_lc2; apply ev_var; apply lk_tl; kernel_rfl!; apply lk_tl; kernel_rfl!; exact lk_hd; kernel_rfl!; exact itr_lst)
    exact cap0 (by kernel_rfl!)
    (with_reducible kernel_rfl!; kernel_rfl!)
    intros
    kernel_rfl!
    intros
    (with_reducible kernel_rfl!; kernel_rfl!)
    intro env h; cases env; subst h
    (with_reducible kernel_rfl!; apply cp2_cons; apply ev_call; kernel_rfl!; kernel_rfl!; apply evs_cons; apply ev_var; exact lk_hd; kernel_rfl!; exact evs_nil)
    intros
    (with_reducible kernel_rfl!; exact c_in_prod3 (by assumption) _ _ _)
    exact leT (by kernel_rfl!); intros
    (with_reducible kernel_rfl!; exact itr_lst; apply cp_step; exact If1.none; apply cpk_t; apply ev_var; exact lk_hd; kernel_rfl!; apply cp_step; exact If1.none; apply cpk_t; apply ev_var; exact lk_hd; kernel_rfl!; apply cp_step; exact If1.none; apply cpk_t; apply ev_var; exact lk_hd; kernel_rfl!; exact Cp.nil; exact Cp2.nil; apply App.cons; apply App.cons; apply App.cons; exact App.nil)
    exact leT (by kernel_rfl!)
    (with_reducible apply xk_nxt; exact xs_nil; apply wh_step; apply ts_cmp; apply ev_call_bi; exact bi_len (by assumption); kernel_rfl!; kernel_rfl!; apply evs_cons; apply ev_var; exact lk_hd; kernel_rfl!; exact evs_nil)
    intros
    (with_reducible kernel_rfl!; apply cv_lenL; exact Len.l3)
    intros
    kernel_rfl!
    intros
    (with_reducible kernel_rfl!; exact ev_int; apply op_gtI)
    exact isT (by kernel_rfl!)
    (with_reducible kernel_rfl!; apply whk_t; apply xs_seq; apply x1_swap2; apply ev_tup; apply evs_cons; apply ev_bin; apply ev_var; apply lk_tl; kernel_rfl!; exact lk_hd; kernel_rfl!; exact ev_int; exact op_add; apply evs_cons; apply ev_bin; apply ev_var; apply lk_tl; kernel_rfl!; apply lk_tl; kernel_rfl!; exact lk_hd; kernel_rfl!; apply ev_call_bi; exact bi_len (by assumption); kernel_rfl!; kernel_rfl!; apply evs_cons; apply ev_var; exact lk_hd; kernel_rfl!; exact evs_nil)
    intros
    (with_reducible kernel_rfl!; apply cv_lenL; exact Len.l3)
    intros
    kernel_rfl!
    intros
    (with_reducible kernel_rfl!; exact op_add; exact evs_nil)
    intros
    kernel_rfl!
    intros
    kernel_rfl!
    exact leT (by kernel_rfl!)
    (with_reducible kernel_rfl!; kernel_rfl!)
    intro env h; cases env; subst h
    (with_reducible kernel_rfl!; apply xk_nxt; apply xs_seq; apply x1_if; apply ts_bool; apply tss_or; apply ts_cmp; apply ev_var; exact lk_hd; kernel_rfl!; apply ev_var; apply lk_tl; kernel_rfl!; apply lk_tl; kernel_rfl!; apply lk_tl; kernel_rfl!; apply lk_tl; kernel_rfl!; apply lk_tl; kernel_rfl!; apply lk_tl; kernel_rfl!; apply lk_tl; kernel_rfl!; apply lk_tl; kernel_rfl!; apply lk_zip; apply lk_tl; kernel_rfl!; apply lk_zip; exact lk_hd; kernel_rfl!; apply op_gtI)
    exact isF (by kernel_rfl!)
    (with_reducible kernel_rfl!; apply aro_f; apply tss_or; apply ts_cmp; apply ev_var; apply lk_tl; kernel_rfl!; exact lk_hd; kernel_rfl!; apply ev_var; apply lk_tl; kernel_rfl!; apply lk_tl; kernel_rfl!; apply lk_tl; kernel_rfl!; apply lk_tl; kernel_rfl!; apply lk_tl; kernel_rfl!; apply lk_tl; kernel_rfl!; apply lk_tl; kernel_rfl!; apply lk_tl; kernel_rfl!; apply lk_zip; apply lk_tl; kernel_rfl!; apply lk_zip; apply lk_tl; kernel_rfl!; apply lk_zip; exact lk_hd; kernel_rfl!; apply op_gtI)
    exact isF (by kernel_rfl!)
    (with_reducible kernel_rfl!; apply aro_f; exact tss_or_nil; apply ar_f; exact xs_nil; apply xk_nxt; apply xs_seq; apply x1_if; apply ts_cmp; apply ev_call_bi; exact bi_len (by assumption); kernel_rfl!; kernel_rfl!; apply evs_cons; apply ev_lc; apply ev_var; apply lk_tl; kernel_rfl!; apply lk_tl; kernel_rfl!; exact lk_hd; kernel_rfl!; exact itr_lst)
    exact cap0 (by kernel_rfl!)
    kernel_rfl!
    exact leT (by kernel_rfl!); intros
    (with_reducible kernel_rfl!; apply cp_step; apply If1.one; apply ts_bool; apply tss_and; apply ts_cmp; apply ev_at; apply ev_var; exact lk_hd; kernel_rfl!; exact ev_int; apply At.tup; exact Nth.n0)
    intros
    (with_reducible kernel_rfl!; exact ev_str; apply op_eqS)
    exact isT (by kernel_rfl!)
    (with_reducible kernel_rfl!; apply ara_t; apply tss_and; apply ts_cmp; apply ev_call; kernel_rfl!; kernel_rfl!; apply evs_cons; apply ev_call_bi; exact bi_max (by assumption); kernel_rfl!; kernel_rfl!; apply evs_cons; apply ev_call_bi; exact bi_abs (by assumption); kernel_rfl!; kernel_rfl!; apply evs_cons; apply ev_at; apply ev_var; exact lk_hd; kernel_rfl!; exact ev_int; apply At.tup; exact Nth.n1)
    intros
    (with_reducible kernel_rfl!; exact evs_nil)
    intros
    (with_reducible kernel_rfl!; exact cv_abs)
    intros
    kernel_rfl!
    intros
    (with_reducible kernel_rfl!; apply evs_cons; apply ev_at; apply ev_var; exact lk_hd; kernel_rfl!; exact ev_int; apply At.tup; exact Nth.n2)
    intros
    (with_reducible kernel_rfl!; exact evs_nil)
    intros
    kernel_rfl!
    intros
    (with_reducible kernel_rfl!; apply cv_max; assumption)
    intros
    kernel_rfl!
    intros
    (with_reducible kernel_rfl!; exact evs_nil)
    intros
    (with_reducible kernel_rfl!; assumption)
    exact leT (by kernel_rfl!); intros
    (with_reducible kernel_rfl!; apply ev_con; exact Fa.bits (by assumption); kernel_rfl!; kernel_rfl!; apply op_gtI; apply decF)
    omega
    (with_reducible kernel_rfl!; exact ara_f; apply cpk_f; apply cp_step; apply If1.one; apply ts_bool; apply tss_and; apply ts_cmp; apply ev_at; apply ev_var; exact lk_hd; kernel_rfl!; exact ev_int; apply At.tup; exact Nth.n0)
    intros
    (with_reducible kernel_rfl!; exact ev_str; apply op_eqS)
    exact isF (by kernel_rfl!)
    (with_reducible kernel_rfl!; exact ara_f; apply cpk_f; apply cp_step; apply If1.one; apply ts_bool; apply tss_and; apply ts_cmp; apply ev_at; apply ev_var; exact lk_hd; kernel_rfl!; exact ev_int; apply At.tup; exact Nth.n0)
    intros
    (with_reducible kernel_rfl!; exact ev_str; apply op_eqS)
    exact isF (by kernel_rfl!)
    (with_reducible kernel_rfl!; exact ara_f; apply cpk_f; exact Cp.nil; exact evs_nil)
    intros
    (with_reducible kernel_rfl!; apply cv_lenL; exact Len.l0)
    intros
    kernel_rfl!
    intros
    (with_reducible kernel_rfl!; exact ev_int; apply op_gtI)
    exact isF (by kernel_rfl!)
    (with_reducible kernel_rfl!; apply ar_f; exact xs_nil; apply xk_nxt; apply xs_seq; apply x1_if; apply ts_bool; apply tss_and; apply ts_cmp; apply ev_call_bi; exact bi_len (by assumption); kernel_rfl!; kernel_rfl!; apply evs_cons; apply ev_var; apply lk_tl; kernel_rfl!; apply lk_tl; kernel_rfl!; exact lk_hd; kernel_rfl!; exact evs_nil)
    intros
    (with_reducible kernel_rfl!; apply cv_lenL; exact Len.l3)
    intros
    kernel_rfl!
    intros
    (with_reducible kernel_rfl!; apply ev_con; exact Fa.narrow (by assumption); kernel_rfl!; kernel_rfl!; apply op_gtI)
    exact isF (by kernel_rfl!)
    (with_reducible kernel_rfl!; exact ara_f; apply ar_f; exact xs_nil; apply xk_nxt; apply xs_seq; apply x1_lc2; apply ev_var; apply lk_tl; kernel_rfl!; apply lk_tl; kernel_rfl!; exact lk_hd; kernel_rfl!; exact itr_lst)
    exact cap0 (by kernel_rfl!)
    (with_reducible kernel_rfl!; kernel_rfl!)
    intros
    kernel_rfl!
    intros
    (with_reducible kernel_rfl!; kernel_rfl!)
    intro env h; cases env; subst h
    (with_reducible kernel_rfl!; apply cp2_cons; apply ev_call; kernel_rfl!; kernel_rfl!; apply evs_cons; apply ev_var; exact lk_hd; kernel_rfl!; exact evs_nil)
    intros
    (with_reducible kernel_rfl!; exact c_in_num (by assumption) _)
    exact leT (by kernel_rfl!); intros
    (with_reducible kernel_rfl!; exact itr_lst; exact Cp.nil; apply cp2_cons; apply ev_call; kernel_rfl!; kernel_rfl!; apply evs_cons; apply ev_var; exact lk_hd; kernel_rfl!; exact evs_nil)
    intros
    (with_reducible kernel_rfl!; exact c_in_call1 (by assumption) _)
    exact leT (by kernel_rfl!); intros
    (with_reducible kernel_rfl!; exact itr_lst; apply cp_step; exact If1.none; apply cpk_t; apply ev_var; exact lk_hd; kernel_rfl!; exact Cp.nil; apply cp2_cons; apply ev_call; kernel_rfl!; kernel_rfl!; apply evs_cons; apply ev_var; exact lk_hd; kernel_rfl!; exact evs_nil)
    intros
    (with_reducible kernel_rfl!; exact c_in_sum2 (by assumption) _ _)
    exact leT (by kernel_rfl!); intros
    (with_reducible kernel_rfl!; exact itr_lst; apply cp_step; exact If1.none; apply cpk_t; apply ev_var; exact lk_hd; kernel_rfl!; apply cp_step; exact If1.none; apply cpk_t; apply ev_var; exact lk_hd; kernel_rfl!; exact Cp.nil; exact Cp2.nil; apply App.cons; apply App.cons; exact App.nil; apply App.cons; exact App.nil; exact App.nil)
    exact leT (by kernel_rfl!)
    (with_reducible apply xk_nxt; exact xs_nil; apply wh_step; apply ts_cmp; apply ev_call_bi; exact bi_len (by assumption); kernel_rfl!; kernel_rfl!; apply evs_cons; apply ev_var; exact lk_hd; kernel_rfl!; exact evs_nil)
    intros
    (with_reducible kernel_rfl!; apply cv_lenL; exact Len.l3)
    intros
    kernel_rfl!
    intros
    (with_reducible kernel_rfl!; exact ev_int; apply op_gtI)
    exact isT (by kernel_rfl!)
    (with_reducible kernel_rfl!; apply whk_t; apply xs_seq; apply x1_swap2; apply ev_tup; apply evs_cons; apply ev_bin; apply ev_var; apply lk_tl; kernel_rfl!; exact lk_hd; kernel_rfl!; exact ev_int; exact op_add; apply evs_cons; apply ev_bin; apply ev_var; apply lk_tl; kernel_rfl!; apply lk_tl; kernel_rfl!; exact lk_hd; kernel_rfl!; apply ev_call_bi; exact bi_len (by assumption); kernel_rfl!; kernel_rfl!; apply evs_cons; apply ev_var; exact lk_hd; kernel_rfl!; exact evs_nil)
    intros
    (with_reducible kernel_rfl!; apply cv_lenL; exact Len.l3)
    intros
    kernel_rfl!
    intros
    (with_reducible kernel_rfl!; exact op_add; exact evs_nil)
    intros
    kernel_rfl!
    intros
    kernel_rfl!
    exact leT (by kernel_rfl!)
    (with_reducible kernel_rfl!; kernel_rfl!)
    intro env h; cases env; subst h
    (with_reducible kernel_rfl!; apply xk_nxt; apply xs_seq; apply x1_if; apply ts_bool; apply tss_or; apply ts_cmp; apply ev_var; exact lk_hd; kernel_rfl!; apply ev_var; apply lk_tl; kernel_rfl!; apply lk_tl; kernel_rfl!; apply lk_tl; kernel_rfl!; apply lk_tl; kernel_rfl!; apply lk_tl; kernel_rfl!; apply lk_tl; kernel_rfl!; apply lk_tl; kernel_rfl!; apply lk_tl; kernel_rfl!; apply lk_tl; kernel_rfl!; apply lk_tl; kernel_rfl!; apply lk_tl; kernel_rfl!; apply lk_zip; apply lk_tl; kernel_rfl!; apply lk_zip; exact lk_hd; kernel_rfl!; apply op_gtI)
    exact isF (by kernel_rfl!)
    (with_reducible kernel_rfl!; apply aro_f; apply tss_or; apply ts_cmp; apply ev_var; apply lk_tl; kernel_rfl!; exact lk_hd; kernel_rfl!; apply ev_var; apply lk_tl; kernel_rfl!; apply lk_tl; kernel_rfl!; apply lk_tl; kernel_rfl!; apply lk_tl; kernel_rfl!; apply lk_tl; kernel_rfl!; apply lk_tl; kernel_rfl!; apply lk_tl; kernel_rfl!; apply lk_tl; kernel_rfl!; apply lk_tl; kernel_rfl!; apply lk_tl; kernel_rfl!; apply lk_tl; kernel_rfl!; apply lk_zip; apply lk_tl; kernel_rfl!; apply lk_zip; apply lk_tl; kernel_rfl!; apply lk_zip; exact lk_hd; kernel_rfl!; apply op_gtI)
    exact isF (by kernel_rfl!)
    (with_reducible kernel_rfl!; apply aro_f; exact tss_or_nil; apply ar_f; exact xs_nil; apply xk_nxt; apply xs_seq; apply x1_if; apply ts_cmp; apply ev_call_bi; exact bi_len (by assumption); kernel_rfl!; kernel_rfl!; apply evs_cons; apply ev_lc; apply ev_var; apply lk_tl; kernel_rfl!; apply lk_tl; kernel_rfl!; exact lk_hd; kernel_rfl!; exact itr_lst)
    exact cap0 (by kernel_rfl!)
    kernel_rfl!
    exact leT (by kernel_rfl!); intros
    (with_reducible kernel_rfl!; apply cp_step; apply If1.one; apply ts_bool; apply tss_and; apply ts_cmp; apply ev_at; apply ev_var; exact lk_hd; kernel_rfl!; exact ev_int; apply At.tup; exact Nth.n0)
    intros
    (with_reducible kernel_rfl!; exact ev_str; apply op_eqS)
    exact isF (by kernel_rfl!)
    (with_reducible kernel_rfl!; exact ara_f; apply cpk_f; apply cp_step; apply If1.one; apply ts_bool; apply tss_and; apply ts_cmp; apply ev_at; apply ev_var; exact lk_hd; kernel_rfl!; exact ev_int; apply At.tup; exact Nth.n0)
    intros
    (with_reducible kernel_rfl!; exact ev_str; apply op_eqS)
    exact isF (by kernel_rfl!)
    (with_reducible kernel_rfl!; exact ara_f; apply cpk_f; apply cp_step; apply If1.one; apply ts_bool; apply tss_and; apply ts_cmp; apply ev_at; apply ev_var; exact lk_hd; kernel_rfl!; exact ev_int; apply At.tup; exact Nth.n0)
    intros
    (with_reducible kernel_rfl!; exact ev_str; apply op_eqS)
    exact isT (by kernel_rfl!)
    (with_reducible kernel_rfl!; apply ara_t; apply tss_and; apply ts_cmp; apply ev_call; kernel_rfl!; kernel_rfl!; apply evs_cons; apply ev_call_bi; exact bi_max (by assumption); kernel_rfl!; kernel_rfl!; apply evs_cons; apply ev_call_bi; exact bi_abs (by assumption); kernel_rfl!; kernel_rfl!; apply evs_cons; apply ev_at; apply ev_var; exact lk_hd; kernel_rfl!; exact ev_int; apply At.tup; exact Nth.n1)
    intros
    (with_reducible kernel_rfl!; exact evs_nil)
    intros
    (with_reducible kernel_rfl!; exact cv_abs)
    intros
    kernel_rfl!
    intros
    (with_reducible kernel_rfl!; apply evs_cons; apply ev_at; apply ev_var; exact lk_hd; kernel_rfl!; exact ev_int; apply At.tup; exact Nth.n2)
    intros
    (with_reducible kernel_rfl!; exact evs_nil)
    intros
    kernel_rfl!
    intros
    (with_reducible kernel_rfl!; apply cv_max; assumption)
    intros
    kernel_rfl!
    intros
    (with_reducible kernel_rfl!; exact evs_nil)
    intros
    (with_reducible kernel_rfl!; assumption)
    exact leT (by kernel_rfl!); intros
    (with_reducible kernel_rfl!; apply ev_con; exact Fa.bits (by assumption); kernel_rfl!; kernel_rfl!; apply op_gtI; apply decF)
    omega
    (with_reducible kernel_rfl!; exact ara_f; apply cpk_f; exact Cp.nil; exact evs_nil)
    intros
    (with_reducible kernel_rfl!; apply cv_lenL; exact Len.l0)
    intros
    kernel_rfl!
    intros
    (with_reducible kernel_rfl!; exact ev_int; apply op_gtI)
    exact isF (by kernel_rfl!)
    (with_reducible kernel_rfl!; apply ar_f; exact xs_nil; apply xk_nxt; apply xs_seq; apply x1_if; apply ts_bool; apply tss_and; apply ts_cmp; apply ev_call_bi; exact bi_len (by assumption); kernel_rfl!; kernel_rfl!; apply evs_cons; apply ev_var; apply lk_tl; kernel_rfl!; apply lk_tl; kernel_rfl!; exact lk_hd; kernel_rfl!; exact evs_nil)
    intros
    (with_reducible kernel_rfl!; apply cv_lenL; exact Len.l3)
    intros
    kernel_rfl!
    intros
    (with_reducible kernel_rfl!; apply ev_con; exact Fa.narrow (by assumption); kernel_rfl!; kernel_rfl!; apply op_gtI)
    exact isF (by kernel_rfl!)
    (with_reducible kernel_rfl!; exact ara_f; apply ar_f; exact xs_nil; apply xk_nxt; apply xs_seq; apply x1_lc2; apply ev_var; apply lk_tl; kernel_rfl!; apply lk_tl; kernel_rfl!; exact lk_hd; kernel_rfl!; exact itr_lst)
    exact cap0 (by kernel_rfl!)
    (with_reducible kernel_rfl!; kernel_rfl!)
    intros
    kernel_rfl!
    intros
    (with_reducible kernel_rfl!; kernel_rfl!)
    intro env h; cases env; subst h
    (with_reducible kernel_rfl!; apply cp2_cons; apply ev_call; kernel_rfl!; kernel_rfl!; apply evs_cons; apply ev_var; exact lk_hd; kernel_rfl!; exact evs_nil)
    intros
    (with_reducible kernel_rfl!; exact c_in_sum2 (by assumption) _ _)
    exact leT (by kernel_rfl!); intros
    (with_reducible kernel_rfl!; exact itr_lst; apply cp_step; exact If1.none; apply cpk_t; apply ev_var; exact lk_hd; kernel_rfl!; apply cp_step; exact If1.none; apply cpk_t; apply ev_var; exact lk_hd; kernel_rfl!; exact Cp.nil; apply cp2_cons; apply ev_call; kernel_rfl!; kernel_rfl!; apply evs_cons; apply ev_var; exact lk_hd; kernel_rfl!; exact evs_nil)
    intros
    (with_reducible kernel_rfl!; exact c_in_sum2 (by assumption) _ _)
    exact leT (by kernel_rfl!); intros
    (with_reducible kernel_rfl!; exact itr_lst; apply cp_step; exact If1.none; apply cpk_t; apply ev_var; exact lk_hd; kernel_rfl!; apply cp_step; exact If1.none; apply cpk_t; apply ev_var; exact lk_hd; kernel_rfl!; exact Cp.nil; apply cp2_cons; apply ev_call; kernel_rfl!; kernel_rfl!; apply evs_cons; apply ev_var; exact lk_hd; kernel_rfl!; exact evs_nil)
    intros
    (with_reducible kernel_rfl!; exact c_in_num (by assumption) _)
    exact leT (by kernel_rfl!); intros
    (with_reducible kernel_rfl!; exact itr_lst; exact Cp.nil; exact Cp2.nil; exact App.nil; apply App.cons; apply App.cons; exact App.nil; apply App.cons; apply App.cons; exact App.nil)
    exact leT (by kernel_rfl!)
    (with_reducible apply xk_nxt; exact xs_nil; apply wh_step; apply ts_cmp; apply ev_call_bi; exact bi_len (by assumption); kernel_rfl!; kernel_rfl!; apply evs_cons; apply ev_var; exact lk_hd; kernel_rfl!; exact evs_nil)
    intros
    (with_reducible kernel_rfl!; apply cv_lenL; exact Len.l4)
    intros
    kernel_rfl!
    intros
    (with_reducible kernel_rfl!; exact ev_int; apply op_gtI)
    exact isT (by kernel_rfl!)
    (with_reducible kernel_rfl!; apply whk_t; apply xs_seq; apply x1_swap2; apply ev_tup; apply evs_cons; apply ev_bin; apply ev_var; apply lk_tl; kernel_rfl!; exact lk_hd; kernel_rfl!; exact ev_int; exact op_add; apply evs_cons; apply ev_bin; apply ev_var; apply lk_tl; kernel_rfl!; apply lk_tl; kernel_rfl!; exact lk_hd; kernel_rfl!; apply ev_call_bi; exact bi_len (by assumption); kernel_rfl!; kernel_rfl!; apply evs_cons; apply ev_var; exact lk_hd; kernel_rfl!; exact evs_nil)
    intros
    (with_reducible kernel_rfl!; apply cv_lenL; exact Len.l4)
    intros
    kernel_rfl!
    intros
    (with_reducible kernel_rfl!; exact op_add; exact evs_nil)
    intros
    kernel_rfl!
    intros
    kernel_rfl!
    exact leT (by kernel_rfl!)
    (with_reducible kernel_rfl!; kernel_rfl!)
    intro env h; cases env; subst h
    (with_reducible kernel_rfl!; apply xk_nxt; apply xs_seq; apply x1_if; apply ts_bool; apply tss_or; apply ts_cmp; apply ev_var; exact lk_hd; kernel_rfl!; apply ev_var; apply lk_tl; kernel_rfl!; apply lk_tl; kernel_rfl!; apply lk_tl; kernel_rfl!; apply lk_tl; kernel_rfl!; apply lk_tl; kernel_rfl!; apply lk_tl; kernel_rfl!; apply lk_tl; kernel_rfl!; apply lk_tl; kernel_rfl!; apply lk_tl; kernel_rfl!; apply lk_tl; kernel_rfl!; apply lk_tl; kernel_rfl!; apply lk_tl; kernel_rfl!; apply lk_tl; kernel_rfl!; apply lk_tl; kernel_rfl!; apply lk_zip; apply lk_tl; kernel_rfl!; apply lk_zip; exact lk_hd; kernel_rfl!; apply op_gtI)
    exact isF (by kernel_rfl!)
    (with_reducible kernel_rfl!; apply aro_f; apply tss_or; apply ts_cmp; apply ev_var; apply lk_tl; kernel_rfl!; exact lk_hd; kernel_rfl!; apply ev_var; apply lk_tl; kernel_rfl!; apply lk_tl; kernel_rfl!; apply lk_tl; kernel_rfl!; apply lk_tl; kernel_rfl!; apply lk_tl; kernel_rfl!; apply lk_tl; kernel_rfl!; apply lk_tl; kernel_rfl!; apply lk_tl; kernel_rfl!; apply lk_tl; kernel_rfl!; apply lk_tl; kernel_rfl!; apply lk_tl; kernel_rfl!; apply lk_tl; kernel_rfl!; apply lk_tl; kernel_rfl!; apply lk_tl; kernel_rfl!; apply lk_zip; apply lk_tl; kernel_rfl!; apply lk_zip; apply lk_tl; kernel_rfl!; apply lk_zip; exact lk_hd; kernel_rfl!; apply op_gtI)
    exact isF (by kernel_rfl!)
    (with_reducible kernel_rfl!; apply aro_f; exact tss_or_nil; apply ar_f; exact xs_nil; apply xk_nxt; apply xs_seq; apply x1_if; apply ts_cmp; apply ev_call_bi; exact bi_len (by assumption); kernel_rfl!; kernel_rfl!; apply evs_cons; apply ev_lc; apply ev_var; apply lk_tl; kernel_rfl!; apply lk_tl; kernel_rfl!; exact lk_hd; kernel_rfl!; exact itr_lst)
    exact cap0 (by kernel_rfl!)
    kernel_rfl!
    exact leT (by kernel_rfl!); intros
    (with_reducible kernel_rfl!; apply cp_step; apply If1.one; apply ts_bool; apply tss_and; apply ts_cmp; apply ev_at; apply ev_var; exact lk_hd; kernel_rfl!; exact ev_int; apply At.tup; exact Nth.n0)
    intros
    (with_reducible kernel_rfl!; exact ev_str; apply op_eqS)
    exact isT (by kernel_rfl!)
    (with_reducible kernel_rfl!; apply ara_t; apply tss_and; apply ts_cmp; apply ev_call; kernel_rfl!; kernel_rfl!; apply evs_cons; apply ev_call_bi; exact bi_max (by assumption); kernel_rfl!; kernel_rfl!; apply evs_cons; apply ev_call_bi; exact bi_abs (by assumption); kernel_rfl!; kernel_rfl!; apply evs_cons; apply ev_at; apply ev_var; exact lk_hd; kernel_rfl!; exact ev_int; apply At.tup; exact Nth.n1)
    intros
    (with_reducible kernel_rfl!; exact evs_nil)
    intros
    (with_reducible kernel_rfl!; exact cv_abs)
    intros
    kernel_rfl!
    intros
    (with_reducible kernel_rfl!; apply evs_cons; apply ev_at; apply ev_var; exact lk_hd; kernel_rfl!; exact ev_int; apply At.tup; exact Nth.n2)
    intros
    (with_reducible kernel_rfl!; exact evs_nil)
    intros
    kernel_rfl!
    intros
    (with_reducible kernel_rfl!; apply cv_max; assumption)
    intros
    kernel_rfl!
    intros
    (with_reducible kernel_rfl!; exact evs_nil)
    intros
    (with_reducible kernel_rfl!; assumption)
    exact leT (by kernel_rfl!); intros
    (with_reducible kernel_rfl!; apply ev_con; exact Fa.bits (by assumption); kernel_rfl!; kernel_rfl!; apply op_gtI; apply decF)
    omega
    (with_reducible kernel_rfl!; exact ara_f; apply cpk_f; apply cp_step; apply If1.one; apply ts_bool; apply tss_and; apply ts_cmp; apply ev_at; apply ev_var; exact lk_hd; kernel_rfl!; exact ev_int; apply At.tup; exact Nth.n0)
    intros
    (with_reducible kernel_rfl!; exact ev_str; apply op_eqS)
    exact isF (by kernel_rfl!)
    (with_reducible kernel_rfl!; exact ara_f; apply cpk_f; apply cp_step; apply If1.one; apply ts_bool; apply tss_and; apply ts_cmp; apply ev_at; apply ev_var; exact lk_hd; kernel_rfl!; exact ev_int; apply At.tup; exact Nth.n0)
    intros
    (with_reducible kernel_rfl!; exact ev_str; apply op_eqS)
    exact isT (by kernel_rfl!)
    (with_reducible kernel_rfl!; apply ara_t; apply tss_and; apply ts_cmp; apply ev_call; kernel_rfl!; kernel_rfl!; apply evs_cons; apply ev_call_bi; exact bi_max (by assumption); kernel_rfl!; kernel_rfl!; apply evs_cons; apply ev_call_bi; exact bi_abs (by assumption); kernel_rfl!; kernel_rfl!; apply evs_cons; apply ev_at; apply ev_var; exact lk_hd; kernel_rfl!; exact ev_int; apply At.tup; exact Nth.n1)
    intros
    (with_reducible kernel_rfl!; exact evs_nil)
    intros
    (with_reducible kernel_rfl!; exact cv_abs)
    intros
    kernel_rfl!
    intros
    (with_reducible kernel_rfl!; apply evs_cons; apply ev_at; apply ev_var; exact lk_hd; kernel_rfl!; exact ev_int; apply At.tup; exact Nth.n2)
    intros
    (with_reducible kernel_rfl!; exact evs_nil)
    intros
    kernel_rfl!
    intros
    (with_reducible kernel_rfl!; apply cv_max; assumption)
    intros
    kernel_rfl!
    intros
    (with_reducible kernel_rfl!; exact evs_nil)
    intros
    (with_reducible kernel_rfl!; assumption)
    exact leT (by kernel_rfl!); intros
    (with_reducible kernel_rfl!; apply ev_con; exact Fa.bits (by assumption); kernel_rfl!; kernel_rfl!; apply op_gtI; apply decF)
    omega
    (with_reducible kernel_rfl!; exact ara_f; apply cpk_f; apply cp_step; apply If1.one; apply ts_bool; apply tss_and; apply ts_cmp; apply ev_at; apply ev_var; exact lk_hd; kernel_rfl!; exact ev_int; apply At.tup; exact Nth.n0)
    intros
    (with_reducible kernel_rfl!; exact ev_str; apply op_eqS)
    exact isT (by kernel_rfl!)
    (with_reducible kernel_rfl!; apply ara_t; apply tss_and; apply ts_cmp; apply ev_call; kernel_rfl!; kernel_rfl!; apply evs_cons; apply ev_call_bi; exact bi_max (by assumption); kernel_rfl!; kernel_rfl!; apply evs_cons; apply ev_call_bi; exact bi_abs (by assumption); kernel_rfl!; kernel_rfl!; apply evs_cons; apply ev_at; apply ev_var; exact lk_hd; kernel_rfl!; exact ev_int; apply At.tup; exact Nth.n1)
    intros
    (with_reducible kernel_rfl!; exact evs_nil)
    intros
    (with_reducible kernel_rfl!; exact cv_abs1)
    intros
    kernel_rfl!
    intros
    (with_reducible kernel_rfl!; apply evs_cons; apply ev_at; apply ev_var; exact lk_hd; kernel_rfl!; exact ev_int; apply At.tup; exact Nth.n2)
    intros
    (with_reducible kernel_rfl!; exact evs_nil)
    intros
    kernel_rfl!
    intros
    (with_reducible kernel_rfl!; apply cv_max; assumption)
    intros
    kernel_rfl!
    intros
    (with_reducible kernel_rfl!; exact evs_nil)
    intros
    (with_reducible kernel_rfl!; assumption)
    exact leT (by kernel_rfl!); intros
    (with_reducible kernel_rfl!; apply ev_con; exact Fa.bits (by assumption); kernel_rfl!; kernel_rfl!; apply op_gtI)
    exact isF (by kernel_rfl!)
    (with_reducible kernel_rfl!; exact ara_f; apply cpk_f; exact Cp.nil; exact evs_nil)
    intros
    (with_reducible kernel_rfl!; apply cv_lenL; exact Len.l0)
    intros
    kernel_rfl!
    intros
    (with_reducible kernel_rfl!; exact ev_int; apply op_gtI)
    exact isF (by kernel_rfl!)
    (with_reducible kernel_rfl!; apply ar_f; exact xs_nil; apply xk_nxt; apply xs_seq; apply x1_if; apply ts_bool; apply tss_and; apply ts_cmp; apply ev_call_bi; exact bi_len (by assumption); kernel_rfl!; kernel_rfl!; apply evs_cons; apply ev_var; apply lk_tl; kernel_rfl!; apply lk_tl; kernel_rfl!; exact lk_hd; kernel_rfl!; exact evs_nil)
    intros
    (with_reducible kernel_rfl!; apply cv_lenL; exact Len.l4)
    intros
    kernel_rfl!
    intros
    (with_reducible kernel_rfl!; apply ev_con; exact Fa.narrow (by assumption); kernel_rfl!; kernel_rfl!; apply op_gtI)
    exact isF (by kernel_rfl!)
    (with_reducible kernel_rfl!; exact ara_f; apply ar_f; exact xs_nil; apply xk_nxt; apply xs_seq; apply x1_lc2; apply ev_var; apply lk_tl; kernel_rfl!; apply lk_tl; kernel_rfl!; exact lk_hd; kernel_rfl!; exact itr_lst)
    exact cap0 (by kernel_rfl!)
    (with_reducible kernel_rfl!; kernel_rfl!)
    intros
    kernel_rfl!
    intros
    (with_reducible kernel_rfl!; kernel_rfl!)
    intro env h; cases env; subst h
    (with_reducible kernel_rfl!; apply cp2_cons; apply ev_call; kernel_rfl!; kernel_rfl!; apply evs_cons; apply ev_var; exact lk_hd; kernel_rfl!; exact evs_nil)
    intros
    (with_reducible kernel_rfl!; exact c_in_num (by assumption) _)
    exact leT (by kernel_rfl!); intros
    (with_reducible kernel_rfl!; exact itr_lst; exact Cp.nil; apply cp2_cons; apply ev_call; kernel_rfl!; kernel_rfl!; apply evs_cons; apply ev_var; exact lk_hd; kernel_rfl!; exact evs_nil)
    intros
    (with_reducible kernel_rfl!; exact c_in_prod2 (by assumption) _ _)
    exact leT (by kernel_rfl!); intros
    (with_reducible kernel_rfl!; exact itr_lst; apply cp_step; exact If1.none; apply cpk_t; apply ev_var; exact lk_hd; kernel_rfl!; apply cp_step; exact If1.none; apply cpk_t; apply ev_var; exact lk_hd; kernel_rfl!; exact Cp.nil; apply cp2_cons; apply ev_call; kernel_rfl!; kernel_rfl!; apply evs_cons; apply ev_var; exact lk_hd; kernel_rfl!; exact evs_nil)
    intros
    (with_reducible kernel_rfl!; exact c_in_num (by assumption) _)
    exact leT (by kernel_rfl!); intros
    (with_reducible kernel_rfl!; exact itr_lst; exact Cp.nil; apply cp2_cons; apply ev_call; kernel_rfl!; kernel_rfl!; apply evs_cons; apply ev_var; exact lk_hd; kernel_rfl!; exact evs_nil)
    intros
    (with_reducible kernel_rfl!; exact c_in_num (by assumption) _)
    exact leT (by kernel_rfl!); intros
    (with_reducible kernel_rfl!; exact itr_lst; exact Cp.nil; exact Cp2.nil; exact App.nil; exact App.nil; apply App.cons; apply App.cons; exact App.nil; exact App.nil)
    exact leT (by kernel_rfl!)
    (with_reducible apply xk_nxt; exact xs_nil; apply wh_step; apply ts_cmp; apply ev_call_bi; exact bi_len (by assumption); kernel_rfl!; kernel_rfl!; apply evs_cons; apply ev_var; exact lk_hd; kernel_rfl!; exact evs_nil)
    intros
    (with_reducible kernel_rfl!; apply cv_lenL; exact Len.l2)
    intros
    kernel_rfl!
    intros
    (with_reducible kernel_rfl!; exact ev_int; apply op_gtI)
    exact isT (by kernel_rfl!)
    (with_reducible kernel_rfl!; apply whk_t; apply xs_seq; apply x1_swap2; apply ev_tup; apply evs_cons; apply ev_bin; apply ev_var; apply lk_tl; kernel_rfl!; exact lk_hd; kernel_rfl!; exact ev_int; exact op_add; apply evs_cons; apply ev_bin; apply ev_var; apply lk_tl; kernel_rfl!; apply lk_tl; kernel_rfl!; exact lk_hd; kernel_rfl!; apply ev_call_bi; exact bi_len (by assumption); kernel_rfl!; kernel_rfl!; apply evs_cons; apply ev_var; exact lk_hd; kernel_rfl!; exact evs_nil)
    intros
    (with_reducible kernel_rfl!; apply cv_lenL; exact Len.l2)
    intros
    kernel_rfl!
    intros
    (with_reducible kernel_rfl!; exact op_add; exact evs_nil)
    intros
    kernel_rfl!
    intros
    kernel_rfl!
    exact leT (by kernel_rfl!)
    (with_reducible kernel_rfl!; kernel_rfl!)
    intro env h; cases env; subst h
    (with_reducible kernel_rfl!; apply xk_nxt; apply xs_seq; apply x1_if; apply ts_bool; apply tss_or; apply ts_cmp; apply ev_var; exact lk_hd; kernel_rfl!; apply ev_var; apply lk_tl; kernel_rfl!; apply lk_tl; kernel_rfl!; apply lk_tl; kernel_rfl!; apply lk_tl; kernel_rfl!; apply lk_tl; kernel_rfl!; apply lk_tl; kernel_rfl!; apply lk_tl; kernel_rfl!; apply lk_tl; kernel_rfl!; apply lk_tl; kernel_rfl!; apply lk_tl; kernel_rfl!; apply lk_tl; kernel_rfl!; apply lk_tl; kernel_rfl!; apply lk_tl; kernel_rfl!; apply lk_tl; kernel_rfl!; apply lk_tl; kernel_rfl!; apply lk_tl; kernel_rfl!; apply lk_tl; kernel_rfl!; apply lk_zip; apply lk_tl; kernel_rfl!; apply lk_zip; exact lk_hd; kernel_rfl!; apply op_gtI)
    exact isF (by kernel_rfl!)
    (with_reducible kernel_rfl!; apply aro_f; apply tss_or; apply ts_cmp; apply ev_var; apply lk_tl; kernel_rfl!; exact lk_hd; kernel_rfl!; apply ev_var; apply lk_tl; kernel_rfl!; apply lk_tl; kernel_rfl!; apply lk_tl; kernel_rfl!; apply lk_tl; kernel_rfl!; apply lk_tl; kernel_rfl!; apply lk_tl; kernel_rfl!; apply lk_tl; kernel_rfl!; apply lk_tl; kernel_rfl!; apply lk_tl; kernel_rfl!; apply lk_tl; kernel_rfl!; apply lk_tl; kernel_rfl!; apply lk_tl; kernel_rfl!; apply lk_tl; kernel_rfl!; apply lk_tl; kernel_rfl!; apply lk_tl; kernel_rfl!; apply lk_tl; kernel_rfl!; apply lk_tl; kernel_rfl!; apply lk_zip; apply lk_tl; kernel_rfl!; apply lk_zip; apply lk_tl; kernel_rfl!; apply lk_zip; exact lk_hd; kernel_rfl!; apply op_gtI)
    exact isF (by kernel_rfl!)
    (with_reducible kernel_rfl!; apply aro_f; exact tss_or_nil; apply ar_f; exact xs_nil; apply xk_nxt; apply xs_seq; apply x1_if; apply ts_cmp; apply ev_call_bi; exact bi_len (by assumption); kernel_rfl!; kernel_rfl!; apply evs_cons; apply ev_lc; apply ev_var; apply lk_tl; kernel_rfl!; apply lk_tl; kernel_rfl!; exact lk_hd; kernel_rfl!; exact itr_lst)
    exact cap0 (by kernel_rfl!)
    kernel_rfl!
    exact leT (by kernel_rfl!); intros
    (with_reducible kernel_rfl!; apply cp_step; apply If1.one; apply ts_bool; apply tss_and; apply ts_cmp; apply ev_at; apply ev_var; exact lk_hd; kernel_rfl!; exact ev_int; apply At.tup; exact Nth.n0)
    intros
    (with_reducible kernel_rfl!; exact ev_str; apply op_eqS)
    exact isT (by kernel_rfl!)
    (with_reducible kernel_rfl!; apply ara_t; apply tss_and; apply ts_cmp; apply ev_call; kernel_rfl!; kernel_rfl!; apply evs_cons; apply ev_call_bi; exact bi_max (by assumption); kernel_rfl!; kernel_rfl!; apply evs_cons; apply ev_call_bi; exact bi_abs (by assumption); kernel_rfl!; kernel_rfl!; apply evs_cons; apply ev_at; apply ev_var; exact lk_hd; kernel_rfl!; exact ev_int; apply At.tup; exact Nth.n1)
    intros
    (with_reducible kernel_rfl!; exact evs_nil)
    intros
    (with_reducible kernel_rfl!; exact cv_abs)
    intros
    kernel_rfl!
    intros
    (with_reducible kernel_rfl!; apply evs_cons; apply ev_at; apply ev_var; exact lk_hd; kernel_rfl!; exact ev_int; apply At.tup; exact Nth.n2)
    intros
    (with_reducible kernel_rfl!; exact evs_nil)
    intros
    kernel_rfl!
    intros
    (with_reducible kernel_rfl!; apply cv_max; assumption)
    intros
    kernel_rfl!
    intros
    (with_reducible kernel_rfl!; exact evs_nil)
    intros
    (with_reducible kernel_rfl!; assumption)
    exact leT (by kernel_rfl!); intros
    (with_reducible kernel_rfl!; apply ev_con; exact Fa.bits (by assumption); kernel_rfl!; kernel_rfl!; apply op_gtI; apply decF)
    omega
    (with_reducible kernel_rfl!; exact ara_f; apply cpk_f; apply cp_step; apply If1.one; apply ts_bool; apply tss_and; apply ts_cmp; apply ev_at; apply ev_var; exact lk_hd; kernel_rfl!; exact ev_int; apply At.tup; exact Nth.n0)
    intros
    (with_reducible kernel_rfl!; exact ev_str; apply op_eqS)
    exact isF (by kernel_rfl!)
    (with_reducible kernel_rfl!; exact ara_f; apply cpk_f; exact Cp.nil; exact evs_nil)
    intros
    (with_reducible kernel_rfl!; apply cv_lenL; exact Len.l0)
    intros
    kernel_rfl!
    intros
    (with_reducible kernel_rfl!; exact ev_int; apply op_gtI)
    exact isF (by kernel_rfl!)
    (with_reducible kernel_rfl!; apply ar_f; exact xs_nil; apply xk_nxt; apply xs_seq; apply x1_if; apply ts_bool; apply tss_and; apply ts_cmp; apply ev_call_bi; exact bi_len (by assumption); kernel_rfl!; kernel_rfl!; apply evs_cons; apply ev_var; apply lk_tl; kernel_rfl!; apply lk_tl; kernel_rfl!; exact lk_hd; kernel_rfl!; exact evs_nil)
    intros
    (with_reducible kernel_rfl!; apply cv_lenL; exact Len.l2)
    intros
    kernel_rfl!
    intros
    (with_reducible kernel_rfl!; apply ev_con; exact Fa.narrow (by assumption); kernel_rfl!; kernel_rfl!; apply op_gtI)
    exact isF (by kernel_rfl!)
    (with_reducible kernel_rfl!; exact ara_f; apply ar_f; exact xs_nil; apply xk_nxt; apply xs_seq; apply x1_lc2; apply ev_var; apply lk_tl; kernel_rfl!; apply lk_tl; kernel_rfl!; exact lk_hd; kernel_rfl!; exact itr_lst)
    exact cap0 (by kernel_rfl!)
    (with_reducible kernel_rfl!; kernel_rfl!)
    intros
    kernel_rfl!
    intros
    (with_reducible kernel_rfl!; kernel_rfl!)
    intro env h; cases env; subst h
    (with_reducible kernel_rfl!; apply cp2_cons; apply ev_call; kernel_rfl!; kernel_rfl!; apply evs_cons; apply ev_var; exact lk_hd; kernel_rfl!; exact evs_nil)
    intros
    (with_reducible kernel_rfl!; exact c_in_num (by assumption) _)
    exact leT (by kernel_rfl!); intros
    (with_reducible kernel_rfl!; exact itr_lst; exact Cp.nil; apply cp2_cons; apply ev_call; kernel_rfl!; kernel_rfl!; apply evs_cons; apply ev_var; exact lk_hd; kernel_rfl!; exact evs_nil)
    intros
    (with_reducible kernel_rfl!; exact c_in_sum2 (by assumption) _ _)
    exact leT (by kernel_rfl!); intros
    (with_reducible kernel_rfl!; exact itr_lst; apply cp_step; exact If1.none; apply cpk_t; apply ev_var; exact lk_hd; kernel_rfl!; apply cp_step; exact If1.none; apply cpk_t; apply ev_var; exact lk_hd; kernel_rfl!; exact Cp.nil; exact Cp2.nil; apply App.cons; apply App.cons; exact App.nil; exact App.nil)
    exact leT (by kernel_rfl!)
    (with_reducible apply xk_nxt; exact xs_nil; apply wh_step; apply ts_cmp; apply ev_call_bi; exact bi_len (by assumption); kernel_rfl!; kernel_rfl!; apply evs_cons; apply ev_var; exact lk_hd; kernel_rfl!; exact evs_nil)
    intros
    (with_reducible kernel_rfl!; apply cv_lenL; exact Len.l2)
    intros
    kernel_rfl!
    intros
    (with_reducible kernel_rfl!; exact ev_int; apply op_gtI)
    exact isT (by kernel_rfl!)
    (with_reducible kernel_rfl!; apply whk_t; apply xs_seq; apply x1_swap2; apply ev_tup; apply evs_cons; apply ev_bin; apply ev_var; apply lk_tl; kernel_rfl!; exact lk_hd; kernel_rfl!; exact ev_int; exact op_add; apply evs_cons; apply ev_bin; apply ev_var; apply lk_tl; kernel_rfl!; apply lk_tl; kernel_rfl!; exact lk_hd; kernel_rfl!; apply ev_call_bi; exact bi_len (by assumption); kernel_rfl!; kernel_rfl!; apply evs_cons; apply ev_var; exact lk_hd; kernel_rfl!; exact evs_nil)
    intros
    (with_reducible kernel_rfl!; apply cv_lenL; exact Len.l2)
    intros
    kernel_rfl!
    intros
    (with_reducible kernel_rfl!; exact op_add; exact evs_nil)
    intros
    kernel_rfl!
    intros
    kernel_rfl!
    exact leT (by kernel_rfl!)
    (with_reducible kernel_rfl!; kernel_rfl!)
    intro env h; cases env; subst h
    (with_reducible kernel_rfl!; apply xk_nxt; apply xs_seq; apply x1_if; apply ts_bool; apply tss_or; apply ts_cmp; apply ev_var; exact lk_hd; kernel_rfl!; apply ev_var; apply lk_tl; kernel_rfl!; apply lk_tl; kernel_rfl!; apply lk_tl; kernel_rfl!; apply lk_tl; kernel_rfl!; apply lk_tl; kernel_rfl!; apply lk_tl; kernel_rfl!; apply lk_tl; kernel_rfl!; apply lk_tl; kernel_rfl!; apply lk_tl; kernel_rfl!; apply lk_tl; kernel_rfl!; apply lk_tl; kernel_rfl!; apply lk_tl; kernel_rfl!; apply lk_tl; kernel_rfl!; apply lk_tl; kernel_rfl!; apply lk_tl; kernel_rfl!; apply lk_tl; kernel_rfl!; apply lk_tl; kernel_rfl!; apply lk_tl; kernel_rfl!; apply lk_tl; kernel_rfl!; apply lk_tl; kernel_rfl!; apply lk_zip; apply lk_tl; kernel_rfl!; apply lk_zip; exact lk_hd; kernel_rfl!; apply op_gtI)
    exact isF (by kernel_rfl!)
    (with_reducible kernel_rfl!; apply aro_f; apply tss_or; apply ts_cmp; apply ev_var; apply lk_tl; kernel_rfl!; exact lk_hd; kernel_rfl!; apply ev_var; apply lk_tl; kernel_rfl!; apply lk_tl; kernel_rfl!; apply lk_tl; kernel_rfl!; apply lk_tl; kernel_rfl!; apply lk_tl; kernel_rfl!; apply lk_tl; kernel_rfl!; apply lk_tl; kernel_rfl!; apply lk_tl; kernel_rfl!; apply lk_tl; kernel_rfl!; apply lk_tl; kernel_rfl!; apply lk_tl; kernel_rfl!; apply lk_tl; kernel_rfl!; apply lk_tl; kernel_rfl!; apply lk_tl; kernel_rfl!; apply lk_tl; kernel_rfl!; apply lk_tl; kernel_rfl!; apply lk_tl; kernel_rfl!; apply lk_tl; kernel_rfl!; apply lk_tl; kernel_rfl!; apply lk_tl; kernel_rfl!; apply lk_zip; apply lk_tl; kernel_rfl!; apply lk_zip; apply lk_tl; kernel_rfl!; apply lk_zip; exact lk_hd; kernel_rfl!; apply op_gtI)
    exact isF (by kernel_rfl!)
    (with_reducible kernel_rfl!; apply aro_f; exact tss_or_nil; apply ar_f; exact xs_nil; apply xk_nxt; apply xs_seq; apply x1_if; apply ts_cmp; apply ev_call_bi; exact bi_len (by assumption); kernel_rfl!; kernel_rfl!; apply evs_cons; apply ev_lc; apply ev_var; apply lk_tl; kernel_rfl!; apply lk_tl; kernel_rfl!; exact lk_hd; kernel_rfl!; exact itr_lst)
    exact cap0 (by kernel_rfl!)
    kernel_rfl!
    exact leT (by kernel_rfl!); intros
    (with_reducible kernel_rfl!; apply cp_step; apply If1.one; apply ts_bool; apply tss_and; apply ts_cmp; apply ev_at; apply ev_var; exact lk_hd; kernel_rfl!; exact ev_int; apply At.tup; exact Nth.n0)
    intros
    (with_reducible kernel_rfl!; exact ev_str; apply op_eqS)
    exact isT (by kernel_rfl!)
    (with_reducible kernel_rfl!; apply ara_t; apply tss_and; apply ts_cmp; apply ev_call; kernel_rfl!; kernel_rfl!; apply evs_cons; apply ev_call_bi; exact bi_max (by assumption); kernel_rfl!; kernel_rfl!; apply evs_cons; apply ev_call_bi; exact bi_abs (by assumption); kernel_rfl!; kernel_rfl!; apply evs_cons; apply ev_at; apply ev_var; exact lk_hd; kernel_rfl!; exact ev_int; apply At.tup; exact Nth.n1)
    intros
    (with_reducible kernel_rfl!; exact evs_nil)
    intros
    (with_reducible kernel_rfl!; exact cv_abs)
    intros
    kernel_rfl!
    intros
    (with_reducible kernel_rfl!; apply evs_cons; apply ev_at; apply ev_var; exact lk_hd; kernel_rfl!; exact ev_int; apply At.tup; exact Nth.n2)
    intros
    (with_reducible kernel_rfl!; exact evs_nil)
    intros
    kernel_rfl!
    intros
    (with_reducible kernel_rfl!; apply cv_max; assumption)
    intros
    kernel_rfl!
    intros
    (with_reducible kernel_rfl!; exact evs_nil)
    intros
    (with_reducible kernel_rfl!; assumption)
    exact leT (by kernel_rfl!); intros
    (with_reducible kernel_rfl!; apply ev_con; exact Fa.bits (by assumption); kernel_rfl!; kernel_rfl!; apply op_gtI; apply decF)
    omega
    (with_reducible kernel_rfl!; exact ara_f; apply cpk_f; apply cp_step; apply If1.one; apply ts_bool; apply tss_and; apply ts_cmp; apply ev_at; apply ev_var; exact lk_hd; kernel_rfl!; exact ev_int; apply At.tup; exact Nth.n0)
    intros
    (with_reducible kernel_rfl!; exact ev_str; apply op_eqS)
    exact isT (by kernel_rfl!)
    (with_reducible kernel_rfl!; apply ara_t; apply tss_and; apply ts_cmp; apply ev_call; kernel_rfl!; kernel_rfl!; apply evs_cons; apply ev_call_bi; exact bi_max (by assumption); kernel_rfl!; kernel_rfl!; apply evs_cons; apply ev_call_bi; exact bi_abs (by assumption); kernel_rfl!; kernel_rfl!; apply evs_cons; apply ev_at; apply ev_var; exact lk_hd; kernel_rfl!; exact ev_int; apply At.tup; exact Nth.n1)
    intros
    (with_reducible kernel_rfl!; exact evs_nil)
    intros
    (with_reducible kernel_rfl!; exact cv_abs1)
    intros
    kernel_rfl!
    intros
    (with_reducible kernel_rfl!; apply evs_cons; apply ev_at; apply ev_var; exact lk_hd; kernel_rfl!; exact ev_int; apply At.tup; exact Nth.n2)
    intros
    (with_reducible kernel_rfl!; exact evs_nil)
    intros
    kernel_rfl!
    intros
    (with_reducible kernel_rfl!; apply cv_max; assumption)
    intros
    kernel_rfl!
    intros
    (with_reducible kernel_rfl!; exact evs_nil)
    intros
    (with_reducible kernel_rfl!; assumption)
    exact leT (by kernel_rfl!); intros
    (with_reducible kernel_rfl!; apply ev_con; exact Fa.bits (by assumption); kernel_rfl!; kernel_rfl!; apply op_gtI)
    exact isF (by kernel_rfl!)
    (with_reducible kernel_rfl!; exact ara_f; apply cpk_f; exact Cp.nil; exact evs_nil)
    intros
    (with_reducible kernel_rfl!; apply cv_lenL; exact Len.l0)
    intros
    kernel_rfl!
    intros
    (with_reducible kernel_rfl!; exact ev_int; apply op_gtI)
    exact isF (by kernel_rfl!)
    (with_reducible kernel_rfl!; apply ar_f; exact xs_nil; apply xk_nxt; apply xs_seq; apply x1_if; apply ts_bool; apply tss_and; apply ts_cmp; apply ev_call_bi; exact bi_len (by assumption); kernel_rfl!; kernel_rfl!; apply evs_cons; apply ev_var; apply lk_tl; kernel_rfl!; apply lk_tl; kernel_rfl!; exact lk_hd; kernel_rfl!; exact evs_nil)
    intros
    (with_reducible kernel_rfl!; apply cv_lenL; exact Len.l2)
    intros
    kernel_rfl!
    intros
    (with_reducible kernel_rfl!; apply ev_con; exact Fa.narrow (by assumption); kernel_rfl!; kernel_rfl!; apply op_gtI)
    exact isF (by kernel_rfl!)
    (with_reducible kernel_rfl!; exact ara_f; apply ar_f; exact xs_nil; apply xk_nxt; apply xs_seq; apply x1_lc2; apply ev_var; apply lk_tl; kernel_rfl!; apply lk_tl; kernel_rfl!; exact lk_hd; kernel_rfl!; exact itr_lst)
    exact cap0 (by kernel_rfl!)
    (with_reducible kernel_rfl!; kernel_rfl!)
    intros
    kernel_rfl!
    intros
    (with_reducible kernel_rfl!; kernel_rfl!)
    intro env h; cases env; subst h
    (with_reducible kernel_rfl!; apply cp2_cons; apply ev_call; kernel_rfl!; kernel_rfl!; apply evs_cons; apply ev_var; exact lk_hd; kernel_rfl!; exact evs_nil)
    intros
    (with_reducible kernel_rfl!; exact c_in_num (by assumption) _)
    exact leT (by kernel_rfl!); intros
    (with_reducible kernel_rfl!; exact itr_lst; exact Cp.nil; apply cp2_cons; apply ev_call; kernel_rfl!; kernel_rfl!; apply evs_cons; apply ev_var; exact lk_hd; kernel_rfl!; exact evs_nil)
    intros
    (with_reducible kernel_rfl!; exact c_in_num (by assumption) _)
    exact leT (by kernel_rfl!); intros
    (with_reducible kernel_rfl!; exact itr_lst; exact Cp.nil; exact Cp2.nil; exact App.nil; exact App.nil)
    exact leT (by kernel_rfl!)
    (with_reducible apply xk_nxt; exact xs_nil; apply wh_step; apply ts_cmp; apply ev_call_bi; exact bi_len (by assumption); kernel_rfl!; kernel_rfl!; apply evs_cons; apply ev_var; exact lk_hd; kernel_rfl!; exact evs_nil)
    intros
    (with_reducible kernel_rfl!; apply cv_lenL; exact Len.l0)
    intros
    kernel_rfl!
    intros
    (with_reducible kernel_rfl!; exact ev_int; apply op_gtI)
    exact isF (by kernel_rfl!)
    (with_reducible kernel_rfl!; exact whk_f; apply xk_nxt; apply xs_seq; apply x1_return; exact ev_true; exact xk_ret)
  · rfl
theorem c_greatN (F : Fa W) (hn : W.hn = true) (m l : Int) (m0 : -9 ≤ m) (m1 : m ≤ 9) (l0 : -9 ≤ l) (l1 : l ≤ 9) :
    CallOK W 2 (Str.ofString "is_too_great") [Pr [Nm m, Fc [Sm [Nm l, Nm 1]]], .int 120, .int 200000] (.bool false) := by
  obtain ⟨r1, a1, b1⟩ := c_bits F m m0 m1
  obtain ⟨r3, a3, b3⟩ := c_bits F l l0 l1
  have b5 : CallOK W 1 (Str.ofString "bits_of") [.int (if (1 : Int) > 1 then 1 else 1)] (.int 1) := c_bits1 F
  refine call_ok' (k := 29) (ps := [Str.ofString "term", Str.ofString "most", Str.ofString "parts"]) (d' := ?d) rfl (by decide) rfl rfl (by kernel_rfl!) (fun _ _ _ => len3 fun _ _ _ => by kernel_rfl!) ?_ ?_
  rotate_left
  · conv => arg 5; whnf
    (with_reducible apply xs_seq; apply x1_swap3; apply ev_tup; apply evs_cons; apply ev_lst; apply evs_cons; apply ev_var; apply lk_zip; exact lk_hd; kernel_rfl!; exact evs_nil)
    intros
    kernel_rfl!
    exact leT (by kernel_rfl!)
    (with_reducible apply evs_cons; exact ev_int; apply evs_cons; exact ev_int; exact evs_nil)
    intros
    kernel_rfl!
    intros
    kernel_rfl!
    intros
    kernel_rfl!
    exact leT (by kernel_rfl!)
    (with_reducible kernel_rfl!; kernel_rfl!; kernel_rfl!)
    intro env h; cases env; subst h
    (with_reducible kernel_rfl!; apply xk_nxt; apply xs_seq; apply x1_wh; apply wh_step; apply ts_cmp; apply ev_call_bi; exact bi_len (by assumption); kernel_rfl!; kernel_rfl!; apply evs_cons; apply ev_var; exact lk_hd; kernel_rfl!; exact evs_nil)
    intros
    (with_reducible kernel_rfl!; apply cv_lenL; exact Len.l1)
    intros
    kernel_rfl!
    intros
    (with_reducible kernel_rfl!; exact ev_int; apply op_gtI)
    exact isT (by kernel_rfl!)
    (with_reducible kernel_rfl!; apply whk_t; apply xs_seq; apply x1_swap2; apply ev_tup; apply evs_cons; apply ev_bin; apply ev_var; apply lk_tl; kernel_rfl!; exact lk_hd; kernel_rfl!; exact ev_int; exact op_add; apply evs_cons; apply ev_bin; apply ev_var; apply lk_tl; kernel_rfl!; apply lk_tl; kernel_rfl!; exact lk_hd; kernel_rfl!; apply ev_call_bi; exact bi_len (by assumption); kernel_rfl!; kernel_rfl!; apply evs_cons; apply ev_var; exact lk_hd; kernel_rfl!; exact evs_nil)
    intros
    (with_reducible kernel_rfl!; apply cv_lenL; exact Len.l1)
    intros
    kernel_rfl!
    intros
    (with_reducible kernel_rfl!; exact op_add; exact evs_nil)
    intros
    kernel_rfl!
    intros
    kernel_rfl!
    exact leT (by kernel_rfl!)
    (with_reducible kernel_rfl!; kernel_rfl!)
    intro env h; cases env; subst h
    (with_reducible kernel_rfl!; apply xk_nxt; apply xs_seq; apply x1_if; apply ts_bool; apply tss_or; apply ts_cmp; apply ev_var; exact lk_hd; kernel_rfl!; apply ev_var; apply lk_tl; kernel_rfl!; apply lk_tl; kernel_rfl!; apply lk_tl; kernel_rfl!; apply lk_tl; kernel_rfl!; apply lk_tl; kernel_rfl!; apply lk_zip; apply lk_tl; kernel_rfl!; apply lk_zip; exact lk_hd; kernel_rfl!; apply op_gtI)
    exact isF (by kernel_rfl!)
    (with_reducible kernel_rfl!; apply aro_f; apply tss_or; apply ts_cmp; apply ev_var; apply lk_tl; kernel_rfl!; exact lk_hd; kernel_rfl!; apply ev_var; apply lk_tl; kernel_rfl!; apply lk_tl; kernel_rfl!; apply lk_tl; kernel_rfl!; apply lk_tl; kernel_rfl!; apply lk_tl; kernel_rfl!; apply lk_zip; apply lk_tl; kernel_rfl!; apply lk_zip; apply lk_tl; kernel_rfl!; apply lk_zip; exact lk_hd; kernel_rfl!; apply op_gtI)
    exact isF (by kernel_rfl!)
    (with_reducible kernel_rfl!; apply aro_f; exact tss_or_nil; apply ar_f; exact xs_nil; apply xk_nxt; apply xs_seq; apply x1_if; apply ts_cmp; apply ev_call_bi; exact bi_len (by assumption); kernel_rfl!; kernel_rfl!; apply evs_cons; apply ev_lc; apply ev_var; apply lk_tl; kernel_rfl!; apply lk_tl; kernel_rfl!; exact lk_hd; kernel_rfl!; exact itr_lst)
    exact cap0 (by kernel_rfl!)
    kernel_rfl!
    exact leT (by kernel_rfl!); intros
    (with_reducible kernel_rfl!; apply cp_step; apply If1.one; apply ts_bool; apply tss_and; apply ts_cmp; apply ev_at; apply ev_var; exact lk_hd; kernel_rfl!; exact ev_int; apply At.tup; exact Nth.n0)
    intros
    (with_reducible kernel_rfl!; exact ev_str; apply op_eqS)
    exact isF (by kernel_rfl!)
    (with_reducible kernel_rfl!; exact ara_f; apply cpk_f; exact Cp.nil; exact evs_nil)
    intros
    (with_reducible kernel_rfl!; apply cv_lenL; exact Len.l0)
    intros
    kernel_rfl!
    intros
    (with_reducible kernel_rfl!; exact ev_int; apply op_gtI)
    exact isF (by kernel_rfl!)
    (with_reducible kernel_rfl!; apply ar_f; exact xs_nil; apply xk_nxt; apply xs_seq; apply x1_if; apply ts_bool; apply tss_and; apply ts_cmp; apply ev_call_bi; exact bi_len (by assumption); kernel_rfl!; kernel_rfl!; apply evs_cons; apply ev_var; apply lk_tl; kernel_rfl!; apply lk_tl; kernel_rfl!; exact lk_hd; kernel_rfl!; exact evs_nil)
    intros
    (with_reducible kernel_rfl!; apply cv_lenL; exact Len.l1)
    intros
    kernel_rfl!
    intros
    (with_reducible kernel_rfl!; apply ev_con; exact Fa.narrow (by assumption); kernel_rfl!; kernel_rfl!; apply op_gtI)
    exact isF (by kernel_rfl!)
    (with_reducible kernel_rfl!; exact ara_f; apply ar_f; exact xs_nil; apply xk_nxt; apply xs_seq; apply x1_lc2; apply ev_var; apply lk_tl; kernel_rfl!; apply lk_tl; kernel_rfl!; exact lk_hd; kernel_rfl!; exact itr_lst)
    exact cap0 (by kernel_rfl!)
    (with_reducible kernel_rfl!; kernel_rfl!)
    intros
    kernel_rfl!
    intros
    (with_reducible kernel_rfl!; kernel_rfl!)
    intro env h; cases env; subst h
    (with_reducible kernel_rfl!; apply cp2_cons; apply ev_call; kernel_rfl!; kernel_rfl!; apply evs_cons; apply ev_var; exact lk_hd; kernel_rfl!; exact evs_nil)
    intros
    (with_reducible kernel_rfl!; exact c_in_prod2 (by assumption) _ _)
    exact leT (by kernel_rfl!); intros
    (with_reducible kernel_rfl!; exact itr_lst; apply cp_step; exact If1.none; apply cpk_t; apply ev_var; exact lk_hd; kernel_rfl!; apply cp_step; exact If1.none; apply cpk_t; apply ev_var; exact lk_hd; kernel_rfl!; exact Cp.nil; exact Cp2.nil; apply App.cons; apply App.cons; exact App.nil)
    exact leT (by kernel_rfl!)
    (with_reducible apply xk_nxt; exact xs_nil; apply wh_step; apply ts_cmp; apply ev_call_bi; exact bi_len (by assumption); kernel_rfl!; kernel_rfl!; apply evs_cons; apply ev_var; exact lk_hd; kernel_rfl!; exact evs_nil)
    intros
    (with_reducible kernel_rfl!; apply cv_lenL; exact Len.l2)
    intros
    kernel_rfl!
    intros
    (with_reducible kernel_rfl!; exact ev_int; apply op_gtI)
    exact isT (by kernel_rfl!)
    (with_reducible kernel_rfl!; apply whk_t; apply xs_seq; apply x1_swap2; apply ev_tup; apply evs_cons; apply ev_bin; apply ev_var; apply lk_tl; kernel_rfl!; exact lk_hd; kernel_rfl!; exact ev_int; exact op_add; apply evs_cons; apply ev_bin; apply ev_var; apply lk_tl; kernel_rfl!; apply lk_tl; kernel_rfl!; exact lk_hd; kernel_rfl!; apply ev_call_bi; exact bi_len (by assumption); kernel_rfl!; kernel_rfl!; apply evs_cons; apply ev_var; exact lk_hd; kernel_rfl!; exact evs_nil)
    intros
    (with_reducible kernel_rfl!; apply cv_lenL; exact Len.l2)
    intros
    kernel_rfl!
    intros
    (with_reducible kernel_rfl!; exact op_add; exact evs_nil)
    intros
    kernel_rfl!
    intros
    kernel_rfl!
    exact leT (by kernel_rfl!)
    (with_reducible kernel_rfl!; kernel_rfl!)
    intro env h; cases env; subst h
    (with_reducible kernel_rfl!; apply xk_nxt; apply xs_seq; apply x1_if; apply ts_bool; apply tss_or; apply ts_cmp; apply ev_var; exact lk_hd; kernel_rfl!; apply ev_var; apply lk_tl; kernel_rfl!; apply lk_tl; kernel_rfl!; apply lk_tl; kernel_rfl!; apply lk_tl; kernel_rfl!; apply lk_tl; kernel_rfl!; apply lk_tl; kernel_rfl!; apply lk_tl; kernel_rfl!; apply lk_tl; kernel_rfl!; apply lk_zip; apply lk_tl; kernel_rfl!; apply lk_zip; exact lk_hd; kernel_rfl!; apply op_gtI)
    exact isF (by kernel_rfl!)
    (with_reducible kernel_rfl!; apply aro_f; apply tss_or; apply ts_cmp; apply ev_var; apply lk_tl; kernel_rfl!; exact lk_hd; kernel_rfl!; apply ev_var; apply lk_tl; kernel_rfl!; apply lk_tl; kernel_rfl!; apply lk_tl; kernel_rfl!; apply lk_tl; kernel_rfl!; apply lk_tl; kernel_rfl!; apply lk_tl; kernel_rfl!; apply lk_tl; kernel_rfl!; apply lk_tl; kernel_rfl!; apply lk_zip; apply lk_tl; kernel_rfl!; apply lk_zip; apply lk_tl; kernel_rfl!; apply lk_zip; exact lk_hd; kernel_rfl!; apply op_gtI)
    exact isF (by kernel_rfl!)
    (with_reducible kernel_rfl!; apply aro_f; exact tss_or_nil; apply ar_f; exact xs_nil; apply xk_nxt; apply xs_seq; apply x1_if; apply ts_cmp; apply ev_call_bi; exact bi_len (by assumption); kernel_rfl!; kernel_rfl!; apply evs_cons; apply ev_lc; apply ev_var; apply lk_tl; kernel_rfl!; apply lk_tl; kernel_rfl!; exact lk_hd; kernel_rfl!; exact itr_lst)
    exact cap0 (by kernel_rfl!)
    kernel_rfl!
    exact leT (by kernel_rfl!); intros
    (with_reducible kernel_rfl!; apply cp_step; apply If1.one; apply ts_bool; apply tss_and; apply ts_cmp; apply ev_at; apply ev_var; exact lk_hd; kernel_rfl!; exact ev_int; apply At.tup; exact Nth.n0)
    intros
    (with_reducible kernel_rfl!; exact ev_str; apply op_eqS)
    exact isT (by kernel_rfl!)
    (with_reducible kernel_rfl!; apply ara_t; apply tss_and; apply ts_cmp; apply ev_call; kernel_rfl!; kernel_rfl!; apply evs_cons; apply ev_call_bi; exact bi_max (by assumption); kernel_rfl!; kernel_rfl!; apply evs_cons; apply ev_call_bi; exact bi_abs (by assumption); kernel_rfl!; kernel_rfl!; apply evs_cons; apply ev_at; apply ev_var; exact lk_hd; kernel_rfl!; exact ev_int; apply At.tup; exact Nth.n1)
    intros
    (with_reducible kernel_rfl!; exact evs_nil)
    intros
    (with_reducible kernel_rfl!; exact cv_abs)
    intros
    kernel_rfl!
    intros
    (with_reducible kernel_rfl!; apply evs_cons; apply ev_at; apply ev_var; exact lk_hd; kernel_rfl!; exact ev_int; apply At.tup; exact Nth.n2)
    intros
    (with_reducible kernel_rfl!; exact evs_nil)
    intros
    kernel_rfl!
    intros
    (with_reducible kernel_rfl!; apply cv_max; assumption)
    intros
    kernel_rfl!
    intros
    (with_reducible kernel_rfl!; exact evs_nil)
    intros
    (with_reducible kernel_rfl!; assumption)
    exact leT (by kernel_rfl!); intros
    (with_reducible kernel_rfl!; apply ev_con; exact Fa.bits (by assumption); kernel_rfl!; kernel_rfl!; apply op_gtI; apply decF)
    omega
    (with_reducible kernel_rfl!; exact ara_f; apply cpk_f; apply cp_step; apply If1.one; apply ts_bool; apply tss_and; apply ts_cmp; apply ev_at; apply ev_var; exact lk_hd; kernel_rfl!; exact ev_int; apply At.tup; exact Nth.n0)
    intros
    (with_reducible kernel_rfl!; exact ev_str; apply op_eqS)
    exact isF (by kernel_rfl!)
    (with_reducible kernel_rfl!; exact ara_f; apply cpk_f; exact Cp.nil; exact evs_nil)
    intros
    (with_reducible kernel_rfl!; apply cv_lenL; exact Len.l0)
    intros
    kernel_rfl!
    intros
    (with_reducible kernel_rfl!; exact ev_int; apply op_gtI)
    exact isF (by kernel_rfl!)
    (with_reducible kernel_rfl!; apply ar_f; exact xs_nil; apply xk_nxt; apply xs_seq; apply x1_if; apply ts_bool; apply tss_and; apply ts_cmp; apply ev_call_bi; exact bi_len (by assumption); kernel_rfl!; kernel_rfl!; apply evs_cons; apply ev_var; apply lk_tl; kernel_rfl!; apply lk_tl; kernel_rfl!; exact lk_hd; kernel_rfl!; exact evs_nil)
    intros
    (with_reducible kernel_rfl!; apply cv_lenL; exact Len.l2)
    intros
    kernel_rfl!
    intros
    (with_reducible kernel_rfl!; apply ev_con; exact Fa.narrow (by assumption); kernel_rfl!; kernel_rfl!; apply op_gtI)
    exact isF (by kernel_rfl!)
    (with_reducible kernel_rfl!; exact ara_f; apply ar_f; exact xs_nil; apply xk_nxt; apply xs_seq; apply x1_lc2; apply ev_var; apply lk_tl; kernel_rfl!; apply lk_tl; kernel_rfl!; exact lk_hd; kernel_rfl!; exact itr_lst)
    exact cap0 (by kernel_rfl!)
    (with_reducible kernel_rfl!; kernel_rfl!)
    intros
    kernel_rfl!
    intros
    (with_reducible kernel_rfl!; kernel_rfl!)
    intro env h; cases env; subst h
    (with_reducible kernel_rfl!; apply cp2_cons; apply ev_call; kernel_rfl!; kernel_rfl!; apply evs_cons; apply ev_var; exact lk_hd; kernel_rfl!; exact evs_nil)
    intros
    (with_reducible kernel_rfl!; exact c_in_num (by assumption) _)
    exact leT (by kernel_rfl!); intros
    (with_reducible kernel_rfl!; exact itr_lst; exact Cp.nil; apply cp2_cons; apply ev_call; kernel_rfl!; kernel_rfl!; apply evs_cons; apply ev_var; exact lk_hd; kernel_rfl!; exact evs_nil)
    intros
    (with_reducible kernel_rfl!; exact c_in_call1 (by assumption) _)
    exact leT (by kernel_rfl!); intros
    (with_reducible kernel_rfl!; exact itr_lst; apply cp_step; exact If1.none; apply cpk_t; apply ev_var; exact lk_hd; kernel_rfl!; exact Cp.nil; exact Cp2.nil; apply App.cons; exact App.nil; exact App.nil)
    exact leT (by kernel_rfl!)
    (with_reducible apply xk_nxt; exact xs_nil; apply wh_step; apply ts_cmp; apply ev_call_bi; exact bi_len (by assumption); kernel_rfl!; kernel_rfl!; apply evs_cons; apply ev_var; exact lk_hd; kernel_rfl!; exact evs_nil)
    intros
    (with_reducible kernel_rfl!; apply cv_lenL; exact Len.l1)
    intros
    kernel_rfl!
    intros
    (with_reducible kernel_rfl!; exact ev_int; apply op_gtI)
    exact isT (by kernel_rfl!)
    (with_reducible kernel_rfl!; apply whk_t; apply xs_seq; apply x1_swap2; apply ev_tup; apply evs_cons; apply ev_bin; apply ev_var; apply lk_tl; kernel_rfl!; exact lk_hd; kernel_rfl!; exact ev_int; exact op_add; apply evs_cons; apply ev_bin; apply ev_var; apply lk_tl; kernel_rfl!; apply lk_tl; kernel_rfl!; exact lk_hd; kernel_rfl!; apply ev_call_bi; exact bi_len (by assumption); kernel_rfl!; kernel_rfl!; apply evs_cons; apply ev_var; exact lk_hd; kernel_rfl!; exact evs_nil)
    intros
    (with_reducible kernel_rfl!; apply cv_lenL; exact Len.l1)
    intros
    kernel_rfl!
    intros
    (with_reducible kernel_rfl!; exact op_add; exact evs_nil)
    intros
    kernel_rfl!
    intros
    kernel_rfl!
    exact leT (by kernel_rfl!)
    (with_reducible kernel_rfl!; kernel_rfl!)
    intro env h; cases env; subst h
    (with_reducible kernel_rfl!; apply xk_nxt; apply xs_seq; apply x1_if; apply ts_bool; apply tss_or; apply ts_cmp; apply ev_var; exact lk_hd; kernel_rfl!; apply ev_var; apply lk_tl; kernel_rfl!; apply lk_tl; kernel_rfl!; apply lk_tl; kernel_rfl!; apply lk_tl; kernel_rfl!; apply lk_tl; kernel_rfl!; apply lk_tl; kernel_rfl!; apply lk_tl; kernel_rfl!; apply lk_tl; kernel_rfl!; apply lk_tl; kernel_rfl!; apply lk_tl; kernel_rfl!; apply lk_tl; kernel_rfl!; apply lk_zip; apply lk_tl; kernel_rfl!; apply lk_zip; exact lk_hd; kernel_rfl!; apply op_gtI)
    exact isF (by kernel_rfl!)
    (with_reducible kernel_rfl!; apply aro_f; apply tss_or; apply ts_cmp; apply ev_var; apply lk_tl; kernel_rfl!; exact lk_hd; kernel_rfl!; apply ev_var; apply lk_tl; kernel_rfl!; apply lk_tl; kernel_rfl!; apply lk_tl; kernel_rfl!; apply lk_tl; kernel_rfl!; apply lk_tl; kernel_rfl!; apply lk_tl; kernel_rfl!; apply lk_tl; kernel_rfl!; apply lk_tl; kernel_rfl!; apply lk_tl; kernel_rfl!; apply lk_tl; kernel_rfl!; apply lk_tl; kernel_rfl!; apply lk_zip; apply lk_tl; kernel_rfl!; apply lk_zip; apply lk_tl; kernel_rfl!; apply lk_zip; exact lk_hd; kernel_rfl!; apply op_gtI)
    exact isF (by kernel_rfl!)
    (with_reducible kernel_rfl!; apply aro_f; exact tss_or_nil; apply ar_f; exact xs_nil; apply xk_nxt; apply xs_seq; apply x1_if; apply ts_cmp; apply ev_call_bi; exact bi_len (by assumption); kernel_rfl!; kernel_rfl!; apply evs_cons; apply ev_lc; apply ev_var; apply lk_tl; kernel_rfl!; apply lk_tl; kernel_rfl!; exact lk_hd; kernel_rfl!; exact itr_lst)
    exact cap0 (by kernel_rfl!)
    kernel_rfl!
    exact leT (by kernel_rfl!); intros
    (with_reducible kernel_rfl!; apply cp_step; apply If1.one; apply ts_bool; apply tss_and; apply ts_cmp; apply ev_at; apply ev_var; exact lk_hd; kernel_rfl!; exact ev_int; apply At.tup; exact Nth.n0)
    intros
    (with_reducible kernel_rfl!; exact ev_str; apply op_eqS)
    exact isF (by kernel_rfl!)
    (with_reducible kernel_rfl!; exact ara_f; apply cpk_f; exact Cp.nil; exact evs_nil)
    intros
    (with_reducible kernel_rfl!; apply cv_lenL; exact Len.l0)
    intros
    kernel_rfl!
    intros
    (with_reducible kernel_rfl!; exact ev_int; apply op_gtI)
    exact isF (by kernel_rfl!)
    (with_reducible kernel_rfl!; apply ar_f; exact xs_nil; apply xk_nxt; apply xs_seq; apply x1_if; apply ts_bool; apply tss_and; apply ts_cmp; apply ev_call_bi; exact bi_len (by assumption); kernel_rfl!; kernel_rfl!; apply evs_cons; apply ev_var; apply lk_tl; kernel_rfl!; apply lk_tl; kernel_rfl!; exact lk_hd; kernel_rfl!; exact evs_nil)
    intros
    (with_reducible kernel_rfl!; apply cv_lenL; exact Len.l1)
    intros
    kernel_rfl!
    intros
    (with_reducible kernel_rfl!; apply ev_con; exact Fa.narrow (by assumption); kernel_rfl!; kernel_rfl!; apply op_gtI)
    exact isF (by kernel_rfl!)
    (with_reducible kernel_rfl!; exact ara_f; apply ar_f; exact xs_nil; apply xk_nxt; apply xs_seq; apply x1_lc2; apply ev_var; apply lk_tl; kernel_rfl!; apply lk_tl; kernel_rfl!; exact lk_hd; kernel_rfl!; exact itr_lst)
    exact cap0 (by kernel_rfl!)
    (with_reducible kernel_rfl!; kernel_rfl!)
    intros
    kernel_rfl!
    intros
    (with_reducible kernel_rfl!; kernel_rfl!)
    intro env h; cases env; subst h
    (with_reducible kernel_rfl!; apply cp2_cons; apply ev_call; kernel_rfl!; kernel_rfl!; apply evs_cons; apply ev_var; exact lk_hd; kernel_rfl!; exact evs_nil)
    intros
    (with_reducible kernel_rfl!; exact c_in_sum2 (by assumption) _ _)
    exact leT (by kernel_rfl!); intros
    (with_reducible kernel_rfl!; exact itr_lst; apply cp_step; exact If1.none; apply cpk_t; apply ev_var; exact lk_hd; kernel_rfl!; apply cp_step; exact If1.none; apply cpk_t; apply ev_var; exact lk_hd; kernel_rfl!; exact Cp.nil; exact Cp2.nil; apply App.cons; apply App.cons; exact App.nil)
    exact leT (by kernel_rfl!)
    (with_reducible apply xk_nxt; exact xs_nil; apply wh_step; apply ts_cmp; apply ev_call_bi; exact bi_len (by assumption); kernel_rfl!; kernel_rfl!; apply evs_cons; apply ev_var; exact lk_hd; kernel_rfl!; exact evs_nil)
    intros
    (with_reducible kernel_rfl!; apply cv_lenL; exact Len.l2)
    intros
    kernel_rfl!
    intros
    (with_reducible kernel_rfl!; exact ev_int; apply op_gtI)
    exact isT (by kernel_rfl!)
    (with_reducible kernel_rfl!; apply whk_t; apply xs_seq; apply x1_swap2; apply ev_tup; apply evs_cons; apply ev_bin; apply ev_var; apply lk_tl; kernel_rfl!; exact lk_hd; kernel_rfl!; exact ev_int; exact op_add; apply evs_cons; apply ev_bin; apply ev_var; apply lk_tl; kernel_rfl!; apply lk_tl; kernel_rfl!; exact lk_hd; kernel_rfl!; apply ev_call_bi; exact bi_len (by assumption); kernel_rfl!; kernel_rfl!; apply evs_cons; apply ev_var; exact lk_hd; kernel_rfl!; exact evs_nil)
    intros
    (with_reducible kernel_rfl!; apply cv_lenL; exact Len.l2)
    intros
    kernel_rfl!
    intros
    (with_reducible kernel_rfl!; exact op_add; exact evs_nil)
    intros
    kernel_rfl!
    intros
    kernel_rfl!
    exact leT (by kernel_rfl!)
    (with_reducible kernel_rfl!; kernel_rfl!)
    intro env h; cases env; subst h
    (with_reducible kernel_rfl!; apply xk_nxt; apply xs_seq; apply x1_if; apply ts_bool; apply tss_or; apply ts_cmp; apply ev_var; exact lk_hd; kernel_rfl!; apply ev_var; apply lk_tl; kernel_rfl!; apply lk_tl; kernel_rfl!; apply lk_tl; kernel_rfl!; apply lk_tl; kernel_rfl!; apply lk_tl; kernel_rfl!; apply lk_tl; kernel_rfl!; apply lk_tl; kernel_rfl!; apply lk_tl; kernel_rfl!; apply lk_tl; kernel_rfl!; apply lk_tl; kernel_rfl!; apply lk_tl; kernel_rfl!; apply lk_tl; kernel_rfl!; apply lk_tl; kernel_rfl!; apply lk_tl; kernel_rfl!; apply lk_zip; apply lk_tl; kernel_rfl!; apply lk_zip; exact lk_hd; kernel_rfl!; apply op_gtI)
    exact isF (by kernel_rfl!)
    (with_reducible kernel_rfl!; apply aro_f; apply tss_or; apply ts_cmp; apply ev_var; apply lk_tl; kernel_rfl!; exact lk_hd; kernel_rfl!; apply ev_var; apply lk_tl; kernel_rfl!; apply lk_tl; kernel_rfl!; apply lk_tl; kernel_rfl!; apply lk_tl; kernel_rfl!; apply lk_tl; kernel_rfl!; apply lk_tl; kernel_rfl!; apply lk_tl; kernel_rfl!; apply lk_tl; kernel_rfl!; apply lk_tl; kernel_rfl!; apply lk_tl; kernel_rfl!; apply lk_tl; kernel_rfl!; apply lk_tl; kernel_rfl!; apply lk_tl; kernel_rfl!; apply lk_tl; kernel_rfl!; apply lk_zip; apply lk_tl; kernel_rfl!; apply lk_zip; apply lk_tl; kernel_rfl!; apply lk_zip; exact lk_hd; kernel_rfl!; apply op_gtI)
    exact isF (by kernel_rfl!)
    (with_reducible kernel_rfl!; apply aro_f; exact tss_or_nil; apply ar_f; exact xs_nil; apply xk_nxt; apply xs_seq; apply x1_if; apply ts_cmp; apply ev_call_bi; exact bi_len (by assumption); kernel_rfl!; kernel_rfl!; apply evs_cons; apply ev_lc; apply ev_var; apply lk_tl; kernel_rfl!; apply lk_tl; kernel_rfl!; exact lk_hd; kernel_rfl!; exact itr_lst)
    exact cap0 (by kernel_rfl!)
    kernel_rfl!
    exact leT (by kernel_rfl!); intros
    (with_reducible kernel_rfl!; apply cp_step; apply If1.one; apply ts_bool; apply tss_and; apply ts_cmp; apply ev_at; apply ev_var; exact lk_hd; kernel_rfl!; exact ev_int; apply At.tup; exact Nth.n0)
    intros
    (with_reducible kernel_rfl!; exact ev_str; apply op_eqS)
    exact isT (by kernel_rfl!)
    (with_reducible kernel_rfl!; apply ara_t; apply tss_and; apply ts_cmp; apply ev_call; kernel_rfl!; kernel_rfl!; apply evs_cons; apply ev_call_bi; exact bi_max (by assumption); kernel_rfl!; kernel_rfl!; apply evs_cons; apply ev_call_bi; exact bi_abs (by assumption); kernel_rfl!; kernel_rfl!; apply evs_cons; apply ev_at; apply ev_var; exact lk_hd; kernel_rfl!; exact ev_int; apply At.tup; exact Nth.n1)
    intros
    (with_reducible kernel_rfl!; exact evs_nil)
    intros
    (with_reducible kernel_rfl!; exact cv_abs)
    intros
    kernel_rfl!
    intros
    (with_reducible kernel_rfl!; apply evs_cons; apply ev_at; apply ev_var; exact lk_hd; kernel_rfl!; exact ev_int; apply At.tup; exact Nth.n2)
    intros
    (with_reducible kernel_rfl!; exact evs_nil)
    intros
    kernel_rfl!
    intros
    (with_reducible kernel_rfl!; apply cv_max; assumption)
    intros
    kernel_rfl!
    intros
    (with_reducible kernel_rfl!; exact evs_nil)
    intros
    (with_reducible kernel_rfl!; assumption)
    exact leT (by kernel_rfl!); intros
    (with_reducible kernel_rfl!; apply ev_con; exact Fa.bits (by assumption); kernel_rfl!; kernel_rfl!; apply op_gtI; apply decF)
    omega
    (with_reducible kernel_rfl!; exact ara_f; apply cpk_f; apply cp_step; apply If1.one; apply ts_bool; apply tss_and; apply ts_cmp; apply ev_at; apply ev_var; exact lk_hd; kernel_rfl!; exact ev_int; apply At.tup; exact Nth.n0)
    intros
    (with_reducible kernel_rfl!; exact ev_str; apply op_eqS)
    exact isT (by kernel_rfl!)
    (with_reducible kernel_rfl!; apply ara_t; apply tss_and; apply ts_cmp; apply ev_call; kernel_rfl!; kernel_rfl!; apply evs_cons; apply ev_call_bi; exact bi_max (by assumption); kernel_rfl!; kernel_rfl!; apply evs_cons; apply ev_call_bi; exact bi_abs (by assumption); kernel_rfl!; kernel_rfl!; apply evs_cons; apply ev_at; apply ev_var; exact lk_hd; kernel_rfl!; exact ev_int; apply At.tup; exact Nth.n1)
    intros
    (with_reducible kernel_rfl!; exact evs_nil)
    intros
    (with_reducible kernel_rfl!; exact cv_abs1)
    intros
    kernel_rfl!
    intros
    (with_reducible kernel_rfl!; apply evs_cons; apply ev_at; apply ev_var; exact lk_hd; kernel_rfl!; exact ev_int; apply At.tup; exact Nth.n2)
    intros
    (with_reducible kernel_rfl!; exact evs_nil)
    intros
    kernel_rfl!
    intros
    (with_reducible kernel_rfl!; apply cv_max; assumption)
    intros
    kernel_rfl!
    intros
    (with_reducible kernel_rfl!; exact evs_nil)
    intros
    (with_reducible kernel_rfl!; assumption)
    exact leT (by kernel_rfl!); intros
    (with_reducible kernel_rfl!; apply ev_con; exact Fa.bits (by assumption); kernel_rfl!; kernel_rfl!; apply op_gtI)
    exact isF (by kernel_rfl!)
    (with_reducible kernel_rfl!; exact ara_f; apply cpk_f; exact Cp.nil; exact evs_nil)
    intros
    (with_reducible kernel_rfl!; apply cv_lenL; exact Len.l0)
    intros
    kernel_rfl!
    intros
    (with_reducible kernel_rfl!; exact ev_int; apply op_gtI)
    exact isF (by kernel_rfl!)
    (with_reducible kernel_rfl!; apply ar_f; exact xs_nil; apply xk_nxt; apply xs_seq; apply x1_if; apply ts_bool; apply tss_and; apply ts_cmp; apply ev_call_bi; exact bi_len (by assumption); kernel_rfl!; kernel_rfl!; apply evs_cons; apply ev_var; apply lk_tl; kernel_rfl!; apply lk_tl; kernel_rfl!; exact lk_hd; kernel_rfl!; exact evs_nil)
    intros
    (with_reducible kernel_rfl!; apply cv_lenL; exact Len.l2)
    intros
    kernel_rfl!
    intros
    (with_reducible kernel_rfl!; apply ev_con; exact Fa.narrow (by assumption); kernel_rfl!; kernel_rfl!; apply op_gtI)
    exact isF (by kernel_rfl!)
    (with_reducible kernel_rfl!; exact ara_f; apply ar_f; exact xs_nil; apply xk_nxt; apply xs_seq; apply x1_lc2; apply ev_var; apply lk_tl; kernel_rfl!; apply lk_tl; kernel_rfl!; exact lk_hd; kernel_rfl!; exact itr_lst)
    exact cap0 (by kernel_rfl!)
    (with_reducible kernel_rfl!; kernel_rfl!)
    intros
    kernel_rfl!
    intros
    (with_reducible kernel_rfl!; kernel_rfl!)
    intro env h; cases env; subst h
    (with_reducible kernel_rfl!; apply cp2_cons; apply ev_call; kernel_rfl!; kernel_rfl!; apply evs_cons; apply ev_var; exact lk_hd; kernel_rfl!; exact evs_nil)
    intros
    (with_reducible kernel_rfl!; exact c_in_num (by assumption) _)
    exact leT (by kernel_rfl!); intros
    (with_reducible kernel_rfl!; exact itr_lst; exact Cp.nil; apply cp2_cons; apply ev_call; kernel_rfl!; kernel_rfl!; apply evs_cons; apply ev_var; exact lk_hd; kernel_rfl!; exact evs_nil)
    intros
    (with_reducible kernel_rfl!; exact c_in_num (by assumption) _)
    exact leT (by kernel_rfl!); intros
    (with_reducible kernel_rfl!; exact itr_lst; exact Cp.nil; exact Cp2.nil; exact App.nil; exact App.nil)
    exact leT (by kernel_rfl!)
    (with_reducible apply xk_nxt; exact xs_nil; apply wh_step; apply ts_cmp; apply ev_call_bi; exact bi_len (by assumption); kernel_rfl!; kernel_rfl!; apply evs_cons; apply ev_var; exact lk_hd; kernel_rfl!; exact evs_nil)
    intros
    (with_reducible kernel_rfl!; apply cv_lenL; exact Len.l0)
    intros
    kernel_rfl!
    intros
    (with_reducible kernel_rfl!; exact ev_int; apply op_gtI)
    exact isF (by kernel_rfl!)
    (with_reducible kernel_rfl!; exact whk_f; apply xk_nxt; apply xs_seq; apply x1_return; exact ev_true; exact xk_ret)
  · rfl
theorem c_rep_num (F : Fa W) (b : Nat) (hb : 1 ≤ b) (x : Int) (by0 : D) : CallOK W (b + 1) (Str.ofString "replaced") [Nm x, .dct (Str.ofString "n") by0] (Nm x) := by
  refine call_ok' (k := 80) (ps := [Str.ofString "t", Str.ofString "known"]) (d' := ?d) rfl (by decide) rfl rfl (by kernel_rfl!) (fun _ _ _ => len2 fun _ _ => by kernel_rfl!) ?_ ?_
  rotate_left
  · conv => arg 5; whnf
    (with_reducible apply xs_seq; apply x1_if; apply ts_cmp; apply ev_at; apply ev_var; apply lk_zip; exact lk_hd; kernel_rfl!; exact ev_int; apply At.tup; exact Nth.n0)
    intros
    (with_reducible kernel_rfl!; exact ev_str; apply op_eqS)
    exact isF (by kernel_rfl!)
    (with_reducible kernel_rfl!; apply ar_f; exact xs_nil; apply xk_nxt; apply xs_seq; apply x1_if; apply ts_val; apply ev_call; kernel_rfl!; kernel_rfl!; apply evs_cons; apply ev_var; apply lk_zip; exact lk_hd; kernel_rfl!; exact evs_nil)
    intros
    (with_reducible kernel_rfl!; exact c_own_num (by assumption) _)
    omega; intros
    kernel_rfl!
    intros
    (with_reducible kernel_rfl!; apply ar_f; exact xs_nil; apply xk_nxt; apply xs_seq; apply x1_if; apply ts_val; apply ev_call; kernel_rfl!; kernel_rfl!; apply evs_cons; apply ev_var; apply lk_zip; exact lk_hd; kernel_rfl!; exact evs_nil)
    intros
    (with_reducible kernel_rfl!; exact c_root_num (by assumption) _)
    omega; intros
    kernel_rfl!
    intros
    (with_reducible kernel_rfl!; apply ar_f; exact xs_nil; apply xk_nxt; apply xs_seq; apply x1_return; apply ev_call; kernel_rfl!; kernel_rfl!; apply evs_cons; apply ev_var; apply lk_zip; exact lk_hd; kernel_rfl!; apply evs_cons; apply ev_lc; apply ev_call; kernel_rfl!; kernel_rfl!; apply evs_cons; apply ev_var; apply lk_zip; exact lk_hd; kernel_rfl!; exact evs_nil)
    intros
    (with_reducible kernel_rfl!; exact c_in_num (by assumption) _)
    omega; intros
    (with_reducible kernel_rfl!; exact itr_lst; apply cap1' (Str.ofString "known"); kernel_rfl!; apply lk_zip; apply lk_tl; kernel_rfl!; apply lk_zip; exact lk_hd; kernel_rfl!; kernel_rfl!; kernel_rfl!; kernel_rfl!)
    exact leT (by kernel_rfl!); intros
    (with_reducible kernel_rfl!; exact Cp.nil; exact evs_nil)
    intros
    kernel_rfl!
    intros
    (with_reducible kernel_rfl!; exact c_wi_num (by assumption) _ _)
    omega; intros
    (with_reducible kernel_rfl!; exact xk_ret)
  · rfl

theorem c_rep_sym (F : Fa W) (b : Nat) (by0 : D) : CallOK W (b + 1) (Str.ofString "replaced") [Sy, .dct (Str.ofString "n") by0] by0 := by
  refine call_ok' (k := 80) (ps := [Str.ofString "t", Str.ofString "known"]) (d' := ?d) rfl (by decide) rfl rfl (by kernel_rfl!) (fun _ _ _ => len2 fun _ _ => by kernel_rfl!) ?_ ?_
  rotate_left
  · conv => arg 5; whnf
    (with_reducible apply xs_seq; apply x1_if; apply ts_cmp; apply ev_at; apply ev_var; apply lk_zip; exact lk_hd; kernel_rfl!; exact ev_int; apply At.tup; exact Nth.n0)
    intros
    (with_reducible kernel_rfl!; exact ev_str; apply op_eqS)
    exact isT (by kernel_rfl!)
    (with_reducible kernel_rfl!; apply ar_t; apply xs_seq; apply x1_return; apply ev_met; apply ev_var; apply lk_zip; apply lk_tl; kernel_rfl!; apply lk_zip; exact lk_hd; kernel_rfl!; apply evs_cons; apply ev_at; apply ev_var; apply lk_zip; exact lk_hd; kernel_rfl!; exact ev_int; apply At.tup; exact Nth.n1)
    intros
    (with_reducible kernel_rfl!; apply evs_cons; apply ev_var; apply lk_zip; exact lk_hd; kernel_rfl!; exact evs_nil)
    intros
    kernel_rfl!
    intros
    (with_reducible kernel_rfl!; exact met_get_hit)
    intros
    kernel_rfl!
    intros
    kernel_rfl!
    intro env; exact ⟨_, rfl⟩
    (with_reducible exact xk_ret; exact xk_ret)
  · rfl

theorem c_rep_sum2 (F : Fa W) (b : Nat) (hb : 1 ≤ b) (x y p q by0 : D) (h0 : CallOK W b (Str.ofString "replaced") [x, .dct (Str.ofString "n") by0] p) (h1 : CallOK W b (Str.ofString "replaced") [y, .dct (Str.ofString "n") by0] q) : CallOK W (b + 1) (Str.ofString "replaced") [Sm [x, y], .dct (Str.ofString "n") by0] (Sm [p, q]) := by
  refine call_ok' (k := 80) (ps := [Str.ofString "t", Str.ofString "known"]) (d' := ?d) rfl (by decide) rfl rfl (by kernel_rfl!) (fun _ _ _ => len2 fun _ _ => by kernel_rfl!) ?_ ?_
  rotate_left
  · conv => arg 5; whnf
    (with_reducible apply xs_seq; apply x1_if; apply ts_cmp; apply ev_at; apply ev_var; apply lk_zip; exact lk_hd; kernel_rfl!; exact ev_int; apply At.tup; exact Nth.n0)
    intros
    (with_reducible kernel_rfl!; exact ev_str; apply op_eqS)
    exact isF (by kernel_rfl!)
    (with_reducible kernel_rfl!; apply ar_f; exact xs_nil; apply xk_nxt; apply xs_seq; apply x1_if; apply ts_val; apply ev_call; kernel_rfl!; kernel_rfl!; apply evs_cons; apply ev_var; apply lk_zip; exact lk_hd; kernel_rfl!; exact evs_nil)
    intros
    (with_reducible kernel_rfl!; exact c_own_sum (by assumption) _)
    omega; intros
    kernel_rfl!
    intros
    (with_reducible kernel_rfl!; apply ar_f; exact xs_nil; apply xk_nxt; apply xs_seq; apply x1_if; apply ts_val; apply ev_call; kernel_rfl!; kernel_rfl!; apply evs_cons; apply ev_var; apply lk_zip; exact lk_hd; kernel_rfl!; exact evs_nil)
    intros
    (with_reducible kernel_rfl!; exact c_root_sum (by assumption) _)
    omega; intros
    kernel_rfl!
    intros
    (with_reducible kernel_rfl!; apply ar_f; exact xs_nil; apply xk_nxt; apply xs_seq; apply x1_return; apply ev_call; kernel_rfl!; kernel_rfl!; apply evs_cons; apply ev_var; apply lk_zip; exact lk_hd; kernel_rfl!; apply evs_cons; apply ev_lc; apply ev_call; kernel_rfl!; kernel_rfl!; apply evs_cons; apply ev_var; apply lk_zip; exact lk_hd; kernel_rfl!; exact evs_nil)
    intros
    (with_reducible kernel_rfl!; exact c_in_sum2 (by assumption) _ _)
    omega; intros
    (with_reducible kernel_rfl!; exact itr_lst; apply cap1' (Str.ofString "known"); kernel_rfl!; apply lk_zip; apply lk_tl; kernel_rfl!; apply lk_zip; exact lk_hd; kernel_rfl!; kernel_rfl!; kernel_rfl!; kernel_rfl!)
    exact leT (by kernel_rfl!); intros
    (with_reducible kernel_rfl!; apply cp_step; exact If1.none; apply cpk_t; apply ev_call; kernel_rfl!; kernel_rfl!; apply evs_cons; apply ev_var; exact lk_hd; kernel_rfl!; apply evs_cons; apply ev_var; apply lk_tl; kernel_rfl!; exact lk_hd; kernel_rfl!; exact evs_nil)
    intros
    kernel_rfl!
    intros
    (with_reducible kernel_rfl!; assumption)
    omega; intros
    (with_reducible kernel_rfl!; apply cp_step; exact If1.none; apply cpk_t; apply ev_call; kernel_rfl!; kernel_rfl!; apply evs_cons; apply ev_var; exact lk_hd; kernel_rfl!; apply evs_cons; apply ev_var; apply lk_tl; kernel_rfl!; exact lk_hd; kernel_rfl!; exact evs_nil)
    intros
    kernel_rfl!
    intros
    (with_reducible kernel_rfl!; assumption)
    omega; intros
    (with_reducible kernel_rfl!; exact Cp.nil; exact evs_nil)
    intros
    kernel_rfl!
    intros
    (with_reducible kernel_rfl!; exact c_wi_sum2 (by assumption) _ _ _ _)
    omega; intros
    (with_reducible kernel_rfl!; exact xk_ret)
  · rfl

theorem c_rep_prod2 (F : Fa W) (b : Nat) (hb : 1 ≤ b) (x y p q by0 : D) (h0 : CallOK W b (Str.ofString "replaced") [x, .dct (Str.ofString "n") by0] p) (h1 : CallOK W b (Str.ofString "replaced") [y, .dct (Str.ofString "n") by0] q) : CallOK W (b + 1) (Str.ofString "replaced") [Pr [x, y], .dct (Str.ofString "n") by0] (Pr [p, q]) := by
  refine call_ok' (k := 80) (ps := [Str.ofString "t", Str.ofString "known"]) (d' := ?d) rfl (by decide) rfl rfl (by kernel_rfl!) (fun _ _ _ => len2 fun _ _ => by kernel_rfl!) ?_ ?_
  rotate_left
  · conv => arg 5; whnf
    (with_reducible apply xs_seq; apply x1_if; apply ts_cmp; apply ev_at; apply ev_var; apply lk_zip; exact lk_hd; kernel_rfl!; exact ev_int; apply At.tup; exact Nth.n0)
    intros
    (with_reducible kernel_rfl!; exact ev_str; apply op_eqS)
    exact isF (by kernel_rfl!)
    (with_reducible kernel_rfl!; apply ar_f; exact xs_nil; apply xk_nxt; apply xs_seq; apply x1_if; apply ts_val; apply ev_call; kernel_rfl!; kernel_rfl!; apply evs_cons; apply ev_var; apply lk_zip; exact lk_hd; kernel_rfl!; exact evs_nil)
    intros
    (with_reducible kernel_rfl!; exact c_own_prod (by assumption) _)
    omega; intros
    kernel_rfl!
    intros
    (with_reducible kernel_rfl!; apply ar_f; exact xs_nil; apply xk_nxt; apply xs_seq; apply x1_if; apply ts_val; apply ev_call; kernel_rfl!; kernel_rfl!; apply evs_cons; apply ev_var; apply lk_zip; exact lk_hd; kernel_rfl!; exact evs_nil)
    intros
    (with_reducible kernel_rfl!; exact c_root_prod (by assumption) _)
    omega; intros
    kernel_rfl!
    intros
    (with_reducible kernel_rfl!; apply ar_f; exact xs_nil; apply xk_nxt; apply xs_seq; apply x1_return; apply ev_call; kernel_rfl!; kernel_rfl!; apply evs_cons; apply ev_var; apply lk_zip; exact lk_hd; kernel_rfl!; apply evs_cons; apply ev_lc; apply ev_call; kernel_rfl!; kernel_rfl!; apply evs_cons; apply ev_var; apply lk_zip; exact lk_hd; kernel_rfl!; exact evs_nil)
    intros
    (with_reducible kernel_rfl!; exact c_in_prod2 (by assumption) _ _)
    omega; intros
    (with_reducible kernel_rfl!; exact itr_lst; apply cap1' (Str.ofString "known"); kernel_rfl!; apply lk_zip; apply lk_tl; kernel_rfl!; apply lk_zip; exact lk_hd; kernel_rfl!; kernel_rfl!; kernel_rfl!; kernel_rfl!)
    exact leT (by kernel_rfl!); intros
    (with_reducible kernel_rfl!; apply cp_step; exact If1.none; apply cpk_t; apply ev_call; kernel_rfl!; kernel_rfl!; apply evs_cons; apply ev_var; exact lk_hd; kernel_rfl!; apply evs_cons; apply ev_var; apply lk_tl; kernel_rfl!; exact lk_hd; kernel_rfl!; exact evs_nil)
    intros
    kernel_rfl!
    intros
    (with_reducible kernel_rfl!; assumption)
    omega; intros
    (with_reducible kernel_rfl!; apply cp_step; exact If1.none; apply cpk_t; apply ev_call; kernel_rfl!; kernel_rfl!; apply evs_cons; apply ev_var; exact lk_hd; kernel_rfl!; apply evs_cons; apply ev_var; apply lk_tl; kernel_rfl!; exact lk_hd; kernel_rfl!; exact evs_nil)
    intros
    kernel_rfl!
    intros
    (with_reducible kernel_rfl!; assumption)
    omega; intros
    (with_reducible kernel_rfl!; exact Cp.nil; exact evs_nil)
    intros
    kernel_rfl!
    intros
    (with_reducible kernel_rfl!; exact c_wi_prod2 (by assumption) _ _ _ _)
    omega; intros
    (with_reducible kernel_rfl!; exact xk_ret)
  · rfl

theorem c_rep_prod3 (F : Fa W) (b : Nat) (hb : 1 ≤ b) (x y z p q r by0 : D) (h0 : CallOK W b (Str.ofString "replaced") [x, .dct (Str.ofString "n") by0] p) (h1 : CallOK W b (Str.ofString "replaced") [y, .dct (Str.ofString "n") by0] q) (h2 : CallOK W b (Str.ofString "replaced") [z, .dct (Str.ofString "n") by0] r) : CallOK W (b + 1) (Str.ofString "replaced") [Pr [x, y, z], .dct (Str.ofString "n") by0] (Pr [p, q, r]) := by
  refine call_ok' (k := 80) (ps := [Str.ofString "t", Str.ofString "known"]) (d' := ?d) rfl (by decide) rfl rfl (by kernel_rfl!) (fun _ _ _ => len2 fun _ _ => by kernel_rfl!) ?_ ?_
  rotate_left
  · conv => arg 5; whnf
    (with_reducible apply xs_seq; apply x1_if; apply ts_cmp; apply ev_at; apply ev_var; apply lk_zip; exact lk_hd; kernel_rfl!; exact ev_int; apply At.tup; exact Nth.n0)
    intros
    (with_reducible kernel_rfl!; exact ev_str; apply op_eqS)
    exact isF (by kernel_rfl!)
    (with_reducible kernel_rfl!; apply ar_f; exact xs_nil; apply xk_nxt; apply xs_seq; apply x1_if; apply ts_val; apply ev_call; kernel_rfl!; kernel_rfl!; apply evs_cons; apply ev_var; apply lk_zip; exact lk_hd; kernel_rfl!; exact evs_nil)
    intros
    (with_reducible kernel_rfl!; exact c_own_prod (by assumption) _)
    omega; intros
    kernel_rfl!
    intros
    (with_reducible kernel_rfl!; apply ar_f; exact xs_nil; apply xk_nxt; apply xs_seq; apply x1_if; apply ts_val; apply ev_call; kernel_rfl!; kernel_rfl!; apply evs_cons; apply ev_var; apply lk_zip; exact lk_hd; kernel_rfl!; exact evs_nil)
    intros
    (with_reducible kernel_rfl!; exact c_root_prod (by assumption) _)
    omega; intros
    kernel_rfl!
    intros
    (with_reducible kernel_rfl!; apply ar_f; exact xs_nil; apply xk_nxt; apply xs_seq; apply x1_return; apply ev_call; kernel_rfl!; kernel_rfl!; apply evs_cons; apply ev_var; apply lk_zip; exact lk_hd; kernel_rfl!; apply evs_cons; apply ev_lc; apply ev_call; kernel_rfl!; kernel_rfl!; apply evs_cons; apply ev_var; apply lk_zip; exact lk_hd; kernel_rfl!; exact evs_nil)
    intros
    (with_reducible kernel_rfl!; exact c_in_prod3 (by assumption) _ _ _)
    omega; intros
    (with_reducible kernel_rfl!; exact itr_lst; apply cap1' (Str.ofString "known"); kernel_rfl!; apply lk_zip; apply lk_tl; kernel_rfl!; apply lk_zip; exact lk_hd; kernel_rfl!; kernel_rfl!; kernel_rfl!; kernel_rfl!)
    exact leT (by kernel_rfl!); intros
    (with_reducible kernel_rfl!; apply cp_step; exact If1.none; apply cpk_t; apply ev_call; kernel_rfl!; kernel_rfl!; apply evs_cons; apply ev_var; exact lk_hd; kernel_rfl!; apply evs_cons; apply ev_var; apply lk_tl; kernel_rfl!; exact lk_hd; kernel_rfl!; exact evs_nil)
    intros
    kernel_rfl!
    intros
    (with_reducible kernel_rfl!; assumption)
    omega; intros
    (with_reducible kernel_rfl!; apply cp_step; exact If1.none; apply cpk_t; apply ev_call; kernel_rfl!; kernel_rfl!; apply evs_cons; apply ev_var; exact lk_hd; kernel_rfl!; apply evs_cons; apply ev_var; apply lk_tl; kernel_rfl!; exact lk_hd; kernel_rfl!; exact evs_nil)
    intros
    kernel_rfl!
    intros
    (with_reducible kernel_rfl!; assumption)
    omega; intros
    (with_reducible kernel_rfl!; apply cp_step; exact If1.none; apply cpk_t; apply ev_call; kernel_rfl!; kernel_rfl!; apply evs_cons; apply ev_var; exact lk_hd; kernel_rfl!; apply evs_cons; apply ev_var; apply lk_tl; kernel_rfl!; exact lk_hd; kernel_rfl!; exact evs_nil)
    intros
    kernel_rfl!
    intros
    (with_reducible kernel_rfl!; assumption)
    omega; intros
    (with_reducible kernel_rfl!; exact Cp.nil; exact evs_nil)
    intros
    kernel_rfl!
    intros
    (with_reducible kernel_rfl!; exact c_wi_prod3 (by assumption) _ _ _ _ _ _)
    omega; intros
    (with_reducible kernel_rfl!; exact xk_ret)
  · rfl

theorem c_rep_call1 (F : Fa W) (b : Nat) (hb : 1 ≤ b) (x p by0 : D) (h0 : CallOK W b (Str.ofString "replaced") [x, .dct (Str.ofString "n") by0] p) : CallOK W (b + 1) (Str.ofString "replaced") [Fc [x], .dct (Str.ofString "n") by0] (Fc [p]) := by
  refine call_ok' (k := 80) (ps := [Str.ofString "t", Str.ofString "known"]) (d' := ?d) rfl (by decide) rfl rfl (by kernel_rfl!) (fun _ _ _ => len2 fun _ _ => by kernel_rfl!) ?_ ?_
  rotate_left
  · conv => arg 5; whnf
    (with_reducible apply xs_seq; apply x1_if; apply ts_cmp; apply ev_at; apply ev_var; apply lk_zip; exact lk_hd; kernel_rfl!; exact ev_int; apply At.tup; exact Nth.n0)
    intros
    (with_reducible kernel_rfl!; exact ev_str; apply op_eqS)
    exact isF (by kernel_rfl!)
    (with_reducible kernel_rfl!; apply ar_f; exact xs_nil; apply xk_nxt; apply xs_seq; apply x1_if; apply ts_val; apply ev_call; kernel_rfl!; kernel_rfl!; apply evs_cons; apply ev_var; apply lk_zip; exact lk_hd; kernel_rfl!; exact evs_nil)
    intros
    (with_reducible kernel_rfl!; exact c_own_call (by assumption) _)
    omega; intros
    kernel_rfl!
    intros
    (with_reducible kernel_rfl!; apply ar_f; exact xs_nil; apply xk_nxt; apply xs_seq; apply x1_if; apply ts_val; apply ev_call; kernel_rfl!; kernel_rfl!; apply evs_cons; apply ev_var; apply lk_zip; exact lk_hd; kernel_rfl!; exact evs_nil)
    intros
    (with_reducible kernel_rfl!; exact c_root_call (by assumption) _)
    omega; intros
    kernel_rfl!
    intros
    (with_reducible kernel_rfl!; apply ar_f; exact xs_nil; apply xk_nxt; apply xs_seq; apply x1_return; apply ev_call; kernel_rfl!; kernel_rfl!; apply evs_cons; apply ev_var; apply lk_zip; exact lk_hd; kernel_rfl!; apply evs_cons; apply ev_lc; apply ev_call; kernel_rfl!; kernel_rfl!; apply evs_cons; apply ev_var; apply lk_zip; exact lk_hd; kernel_rfl!; exact evs_nil)
    intros
    (with_reducible kernel_rfl!; exact c_in_call1 (by assumption) _)
    omega; intros
    (with_reducible kernel_rfl!; exact itr_lst; apply cap1' (Str.ofString "known"); kernel_rfl!; apply lk_zip; apply lk_tl; kernel_rfl!; apply lk_zip; exact lk_hd; kernel_rfl!; kernel_rfl!; kernel_rfl!; kernel_rfl!)
    exact leT (by kernel_rfl!); intros
    (with_reducible kernel_rfl!; apply cp_step; exact If1.none; apply cpk_t; apply ev_call; kernel_rfl!; kernel_rfl!; apply evs_cons; apply ev_var; exact lk_hd; kernel_rfl!; apply evs_cons; apply ev_var; apply lk_tl; kernel_rfl!; exact lk_hd; kernel_rfl!; exact evs_nil)
    intros
    kernel_rfl!
    intros
    (with_reducible kernel_rfl!; assumption)
    omega; intros
    (with_reducible kernel_rfl!; exact Cp.nil; exact evs_nil)
    intros
    kernel_rfl!
    intros
    (with_reducible kernel_rfl!; exact c_wi_call1 (by assumption) _ _)
    omega; intros
    (with_reducible kernel_rfl!; exact xk_ret)
  · rfl

theorem c_set_num (F : Fa W) (b : Nat) (hb : 3 ≤ b) (x : Int) : CallOK W (b + 1) (Str.ofString "settled") [Nm x, .int 120, .int 20000] (Nm x) := by
  refine call_ok' (k := 82) (ps := [Str.ofString "t", Str.ofString "levels", Str.ofString "terms"]) (d' := ?d) rfl (by decide) rfl rfl (by kernel_rfl!) (fun _ _ _ => len3 fun _ _ _ => by kernel_rfl!) ?_ ?_
  rotate_left
  · conv => arg 5; whnf
    (with_reducible apply xs_seq; apply x1_swap2; apply ev_tup; apply evs_cons; apply ev_at; apply ev_var; apply lk_zip; exact lk_hd; kernel_rfl!; exact ev_int; apply At.tup; exact Nth.n0)
    intros
    (with_reducible kernel_rfl!; apply evs_cons; apply ev_lc; apply ev_call; kernel_rfl!; kernel_rfl!; apply evs_cons; apply ev_var; apply lk_zip; exact lk_hd; kernel_rfl!; exact evs_nil)
    intros
    (with_reducible kernel_rfl!; exact c_in_num (by assumption) _)
    omega; intros
    (with_reducible kernel_rfl!; exact itr_lst; apply cap2 (y := Str.ofString "levels") (z := Str.ofString "terms"); kernel_rfl!; kernel_rfl!; apply lk_zip; apply lk_tl; kernel_rfl!; apply lk_zip; exact lk_hd; kernel_rfl!; kernel_rfl!; kernel_rfl!; apply lk_zip; apply lk_tl; kernel_rfl!; apply lk_zip; apply lk_tl; kernel_rfl!; apply lk_zip; exact lk_hd; kernel_rfl!; kernel_rfl!; kernel_rfl!; kernel_rfl!)
    exact leT (by kernel_rfl!); intros
    (with_reducible kernel_rfl!; exact Cp.nil; exact evs_nil)
    intros
    kernel_rfl!
    intros
    kernel_rfl!
    exact leT (by kernel_rfl!)
    (with_reducible kernel_rfl!; kernel_rfl!)
    intro env h; cases env; subst h
    (with_reducible kernel_rfl!; apply xk_nxt; apply xs_seq; apply x1_if; apply ts_cmp; apply ev_var; exact lk_hd; kernel_rfl!; exact ev_str; apply op_eqS)
    exact isF (by kernel_rfl!)
    (with_reducible kernel_rfl!; apply ar_f; exact xs_nil; apply xk_nxt; apply xs_seq; apply x1_if; apply ts_cmp; apply ev_var; exact lk_hd; kernel_rfl!; exact ev_str; apply op_eqS)
    exact isF (by kernel_rfl!)
    (with_reducible kernel_rfl!; apply ar_f; exact xs_nil; apply xk_nxt; apply xs_seq; apply x1_if; apply ts_cmp; apply ev_var; exact lk_hd; kernel_rfl!; apply ev_tup; apply evs_cons; exact ev_str; apply evs_cons; exact ev_str; exact evs_nil)
    intros
    kernel_rfl!
    intros
    kernel_rfl!
    exact leT (by kernel_rfl!)
    (with_reducible apply op_notInD; exact DP.str _; apply DPs.cons; exact DP.str _; apply DPs.cons; exact DP.str _; exact DPs.nil; kernel_rfl!; kernel_rfl!)
    exact leT (by kernel_rfl!); exact isT (by kernel_rfl!)
    (with_reducible kernel_rfl!; apply ar_t; apply xs_seq; apply x1_return; apply ev_if; apply ts_cmp; apply ev_var; exact lk_hd; kernel_rfl!; exact ev_str; apply op_eqS)
    exact isT (by kernel_rfl!)
    (with_reducible kernel_rfl!; apply are_t; apply ev_call; kernel_rfl!; kernel_rfl!; apply evs_cons; apply ev_var; apply lk_tl; kernel_rfl!; apply lk_tl; kernel_rfl!; apply lk_zip; exact lk_hd; kernel_rfl!; exact evs_nil)
    intros
    (with_reducible kernel_rfl!; exact c_simp_num (by assumption) _)
    omega; intros
    (with_reducible kernel_rfl!; exact xk_ret; exact xk_ret)
  · rfl

theorem c_set_sum2 (F : Fa W) (b : Nat) (hb : 4 ≤ b) (x y : D) (u v : Int) (h0 : CallOK W b (Str.ofString "settled") [x, .int 120, .int 20000] (Nm u)) (h1 : CallOK W b (Str.ofString "settled") [y, .int 120, .int 20000] (Nm v)) : CallOK W (b + 1) (Str.ofString "settled") [Sm [x, y], .int 120, .int 20000] (Nm (u + v)) := by
  refine call_ok' (k := 82) (ps := [Str.ofString "t", Str.ofString "levels", Str.ofString "terms"]) (d' := ?d) rfl (by decide) rfl rfl (by kernel_rfl!) (fun _ _ _ => len3 fun _ _ _ => by kernel_rfl!) ?_ ?_
  rotate_left
  · conv => arg 5; whnf
    (with_reducible apply xs_seq; apply x1_swap2; apply ev_tup; apply evs_cons; apply ev_at; apply ev_var; apply lk_zip; exact lk_hd; kernel_rfl!; exact ev_int; apply At.tup; exact Nth.n0)
    intros
    (with_reducible kernel_rfl!; apply evs_cons; apply ev_lc; apply ev_call; kernel_rfl!; kernel_rfl!; apply evs_cons; apply ev_var; apply lk_zip; exact lk_hd; kernel_rfl!; exact evs_nil)
    intros
    (with_reducible kernel_rfl!; exact c_in_sum2 (by assumption) _ _)
    omega; intros
    (with_reducible kernel_rfl!; exact itr_lst; apply cap2 (y := Str.ofString "levels") (z := Str.ofString "terms"); kernel_rfl!; kernel_rfl!; apply lk_zip; apply lk_tl; kernel_rfl!; apply lk_zip; exact lk_hd; kernel_rfl!; kernel_rfl!; kernel_rfl!; apply lk_zip; apply lk_tl; kernel_rfl!; apply lk_zip; apply lk_tl; kernel_rfl!; apply lk_zip; exact lk_hd; kernel_rfl!; kernel_rfl!; kernel_rfl!; kernel_rfl!)
    exact leT (by kernel_rfl!); intros
    (with_reducible kernel_rfl!; apply cp_step; exact If1.none; apply cpk_t; apply ev_call; kernel_rfl!; kernel_rfl!; apply evs_cons; apply ev_var; exact lk_hd; kernel_rfl!; apply evs_cons; apply ev_var; apply lk_tl; kernel_rfl!; exact lk_hd; kernel_rfl!; apply evs_cons; apply ev_var; apply lk_tl; kernel_rfl!; apply lk_tl; kernel_rfl!; exact lk_hd; kernel_rfl!; exact evs_nil)
    intros
    kernel_rfl!
    intros
    kernel_rfl!
    intros
    (with_reducible kernel_rfl!; assumption)
    omega; intros
    (with_reducible kernel_rfl!; apply cp_step; exact If1.none; apply cpk_t; apply ev_call; kernel_rfl!; kernel_rfl!; apply evs_cons; apply ev_var; exact lk_hd; kernel_rfl!; apply evs_cons; apply ev_var; apply lk_tl; kernel_rfl!; exact lk_hd; kernel_rfl!; apply evs_cons; apply ev_var; apply lk_tl; kernel_rfl!; apply lk_tl; kernel_rfl!; exact lk_hd; kernel_rfl!; exact evs_nil)
    intros
    kernel_rfl!
    intros
    kernel_rfl!
    intros
    (with_reducible kernel_rfl!; assumption)
    omega; intros
    (with_reducible kernel_rfl!; exact Cp.nil; exact evs_nil)
    intros
    kernel_rfl!
    intros
    kernel_rfl!
    exact leT (by kernel_rfl!)
    (with_reducible kernel_rfl!; kernel_rfl!)
    intro env h; cases env; subst h
    (with_reducible kernel_rfl!; apply xk_nxt; apply xs_seq; apply x1_if; apply ts_cmp; apply ev_var; exact lk_hd; kernel_rfl!; exact ev_str; apply op_eqS)
    exact isF (by kernel_rfl!)
    (with_reducible kernel_rfl!; apply ar_f; exact xs_nil; apply xk_nxt; apply xs_seq; apply x1_if; apply ts_cmp; apply ev_var; exact lk_hd; kernel_rfl!; exact ev_str; apply op_eqS)
    exact isT (by kernel_rfl!)
    (with_reducible kernel_rfl!; apply ar_t; apply xs_seq; apply x1_return; apply ev_call; kernel_rfl!; kernel_rfl!; apply evs_cons; apply ev_var; apply lk_tl; kernel_rfl!; exact lk_hd; kernel_rfl!; exact evs_nil)
    intros
    (with_reducible kernel_rfl!; exact c_gsum2 (by assumption) _ _)
    omega; intros
    (with_reducible kernel_rfl!; exact xk_ret; exact xk_ret)
  · rfl

theorem c_set_prod2 (F : Fa W) (b : Nat) (hb : 4 ≤ b) (x y : D) (u v : Int) (m : IntMulOk u v) (h0 : CallOK W b (Str.ofString "settled") [x, .int 120, .int 20000] (Nm u)) (h1 : CallOK W b (Str.ofString "settled") [y, .int 120, .int 20000] (Nm v)) : CallOK W (b + 1) (Str.ofString "settled") [Pr [x, y], .int 120, .int 20000] (Nm (u * v)) := by
  refine call_ok' (k := 82) (ps := [Str.ofString "t", Str.ofString "levels", Str.ofString "terms"]) (d' := ?d) rfl (by decide) rfl rfl (by kernel_rfl!) (fun _ _ _ => len3 fun _ _ _ => by kernel_rfl!) ?_ ?_
  rotate_left
  · conv => arg 5; whnf
    (with_reducible apply xs_seq; apply x1_swap2; apply ev_tup; apply evs_cons; apply ev_at; apply ev_var; apply lk_zip; exact lk_hd; kernel_rfl!; exact ev_int; apply At.tup; exact Nth.n0)
    intros
    (with_reducible kernel_rfl!; apply evs_cons; apply ev_lc; apply ev_call; kernel_rfl!; kernel_rfl!; apply evs_cons; apply ev_var; apply lk_zip; exact lk_hd; kernel_rfl!; exact evs_nil)
    intros
    (with_reducible kernel_rfl!; exact c_in_prod2 (by assumption) _ _)
    omega; intros
    (with_reducible kernel_rfl!; exact itr_lst; apply cap2 (y := Str.ofString "levels") (z := Str.ofString "terms"); kernel_rfl!; kernel_rfl!; apply lk_zip; apply lk_tl; kernel_rfl!; apply lk_zip; exact lk_hd; kernel_rfl!; kernel_rfl!; kernel_rfl!; apply lk_zip; apply lk_tl; kernel_rfl!; apply lk_zip; apply lk_tl; kernel_rfl!; apply lk_zip; exact lk_hd; kernel_rfl!; kernel_rfl!; kernel_rfl!; kernel_rfl!)
    exact leT (by kernel_rfl!); intros
    (with_reducible kernel_rfl!; apply cp_step; exact If1.none; apply cpk_t; apply ev_call; kernel_rfl!; kernel_rfl!; apply evs_cons; apply ev_var; exact lk_hd; kernel_rfl!; apply evs_cons; apply ev_var; apply lk_tl; kernel_rfl!; exact lk_hd; kernel_rfl!; apply evs_cons; apply ev_var; apply lk_tl; kernel_rfl!; apply lk_tl; kernel_rfl!; exact lk_hd; kernel_rfl!; exact evs_nil)
    intros
    kernel_rfl!
    intros
    kernel_rfl!
    intros
    (with_reducible kernel_rfl!; assumption)
    omega; intros
    (with_reducible kernel_rfl!; apply cp_step; exact If1.none; apply cpk_t; apply ev_call; kernel_rfl!; kernel_rfl!; apply evs_cons; apply ev_var; exact lk_hd; kernel_rfl!; apply evs_cons; apply ev_var; apply lk_tl; kernel_rfl!; exact lk_hd; kernel_rfl!; apply evs_cons; apply ev_var; apply lk_tl; kernel_rfl!; apply lk_tl; kernel_rfl!; exact lk_hd; kernel_rfl!; exact evs_nil)
    intros
    kernel_rfl!
    intros
    kernel_rfl!
    intros
    (with_reducible kernel_rfl!; assumption)
    omega; intros
    (with_reducible kernel_rfl!; exact Cp.nil; exact evs_nil)
    intros
    kernel_rfl!
    intros
    kernel_rfl!
    exact leT (by kernel_rfl!)
    (with_reducible kernel_rfl!; kernel_rfl!)
    intro env h; cases env; subst h
    (with_reducible kernel_rfl!; apply xk_nxt; apply xs_seq; apply x1_if; apply ts_cmp; apply ev_var; exact lk_hd; kernel_rfl!; exact ev_str; apply op_eqS)
    exact isF (by kernel_rfl!)
    (with_reducible kernel_rfl!; apply ar_f; exact xs_nil; apply xk_nxt; apply xs_seq; apply x1_if; apply ts_cmp; apply ev_var; exact lk_hd; kernel_rfl!; exact ev_str; apply op_eqS)
    exact isF (by kernel_rfl!)
    (with_reducible kernel_rfl!; apply ar_f; exact xs_nil; apply xk_nxt; apply xs_seq; apply x1_if; apply ts_cmp; apply ev_var; exact lk_hd; kernel_rfl!; apply ev_tup; apply evs_cons; exact ev_str; apply evs_cons; exact ev_str; exact evs_nil)
    intros
    kernel_rfl!
    intros
    kernel_rfl!
    exact leT (by kernel_rfl!)
    (with_reducible apply op_notInD; exact DP.str _; apply DPs.cons; exact DP.str _; apply DPs.cons; exact DP.str _; exact DPs.nil; kernel_rfl!; kernel_rfl!)
    exact leT (by kernel_rfl!); exact isF (by kernel_rfl!)
    (with_reducible kernel_rfl!; apply ar_f; exact xs_nil; apply xk_nxt; apply xs_seq; apply x1_assign; apply ev_if; apply ts_cmp; apply ev_var; exact lk_hd; kernel_rfl!; exact ev_str; apply op_eqS)
    exact isF (by kernel_rfl!)
    (with_reducible kernel_rfl!; apply are_f; apply ev_call; kernel_rfl!; kernel_rfl!; apply evs_cons; apply ev_var; apply lk_tl; kernel_rfl!; exact lk_hd; kernel_rfl!; exact evs_nil)
    intros
    (with_reducible kernel_rfl!; exact c_gprod2 (by assumption) _ _ (by assumption))
    omega; intros
    (with_reducible kernel_rfl!; kernel_rfl!)
    intros
    (with_reducible kernel_rfl!; apply xk_nxt; apply xs_seq; apply x1_if; apply ts_bool; apply tss_and; apply ts_val; apply ev_call; kernel_rfl!; kernel_rfl!; apply evs_cons; apply ev_call; kernel_rfl!; kernel_rfl!; apply evs_cons; apply ev_var; apply lk_tl; kernel_rfl!; apply lk_tl; kernel_rfl!; apply lk_tl; kernel_rfl!; apply lk_zip; exact lk_hd; kernel_rfl!; apply evs_cons; apply ev_var; apply lk_tl; kernel_rfl!; apply lk_tl; kernel_rfl!; exact lk_hd; kernel_rfl!; exact evs_nil)
    intros
    kernel_rfl!
    intros
    (with_reducible kernel_rfl!; exact c_wi_prod2 (by assumption) _ _ _ _)
    omega; intros
    (with_reducible kernel_rfl!; exact evs_nil)
    intros
    (with_reducible kernel_rfl!; exact c_hasratio2 (by assumption) _ _)
    omega; intros
    kernel_rfl!
    intros
    (with_reducible kernel_rfl!; exact ara_f; apply ar_f; exact xs_nil; apply xk_nxt; apply xs_seq; apply x1_return; apply ev_var; exact lk_hd; kernel_rfl!; exact xk_ret)
  · rfl

theorem c_set_prod3 (F : Fa W) (b : Nat) (hb : 4 ≤ b) (x y z : D) (u v w : Int) (m : IntMulOk u v) (m' : IntMulOk (u * v) w) (h0 : CallOK W b (Str.ofString "settled") [x, .int 120, .int 20000] (Nm u)) (h1 : CallOK W b (Str.ofString "settled") [y, .int 120, .int 20000] (Nm v)) (h2 : CallOK W b (Str.ofString "settled") [z, .int 120, .int 20000] (Nm w)) : CallOK W (b + 1) (Str.ofString "settled") [Pr [x, y, z], .int 120, .int 20000] (Nm (u * v * w)) := by
  refine call_ok' (k := 82) (ps := [Str.ofString "t", Str.ofString "levels", Str.ofString "terms"]) (d' := ?d) rfl (by decide) rfl rfl (by kernel_rfl!) (fun _ _ _ => len3 fun _ _ _ => by kernel_rfl!) ?_ ?_
  rotate_left
  · conv => arg 5; whnf
    (with_reducible apply xs_seq; apply x1_swap2; apply ev_tup; apply evs_cons; apply ev_at; apply ev_var; apply lk_zip; exact lk_hd; kernel_rfl!; exact ev_int; apply At.tup; exact Nth.n0)
    intros
    (with_reducible kernel_rfl!; apply evs_cons; apply ev_lc; apply ev_call; kernel_rfl!; kernel_rfl!; apply evs_cons; apply ev_var; apply lk_zip; exact lk_hd; kernel_rfl!; exact evs_nil)
    intros
    (with_reducible kernel_rfl!; exact c_in_prod3 (by assumption) _ _ _)
    omega; intros
    (with_reducible kernel_rfl!; exact itr_lst; apply cap2 (y := Str.ofString "levels") (z := Str.ofString "terms"); kernel_rfl!; kernel_rfl!; apply lk_zip; apply lk_tl; kernel_rfl!; apply lk_zip; exact lk_hd; kernel_rfl!; kernel_rfl!; kernel_rfl!; apply lk_zip; apply lk_tl; kernel_rfl!; apply lk_zip; apply lk_tl; kernel_rfl!; apply lk_zip; exact lk_hd; kernel_rfl!; kernel_rfl!; kernel_rfl!; kernel_rfl!)
    exact leT (by kernel_rfl!); intros
    (with_reducible kernel_rfl!; apply cp_step; exact If1.none; apply cpk_t; apply ev_call; kernel_rfl!; kernel_rfl!; apply evs_cons; apply ev_var; exact lk_hd; kernel_rfl!; apply evs_cons; apply ev_var; apply lk_tl; kernel_rfl!; exact lk_hd; kernel_rfl!; apply evs_cons; apply ev_var; apply lk_tl; kernel_rfl!; apply lk_tl; kernel_rfl!; exact lk_hd; kernel_rfl!; exact evs_nil)
    intros
    kernel_rfl!
    intros
    kernel_rfl!
    intros
    (with_reducible kernel_rfl!; assumption)
    omega; intros
    (with_reducible kernel_rfl!; apply cp_step; exact If1.none; apply cpk_t; apply ev_call; kernel_rfl!; kernel_rfl!; apply evs_cons; apply ev_var; exact lk_hd; kernel_rfl!; apply evs_cons; apply ev_var; apply lk_tl; kernel_rfl!; exact lk_hd; kernel_rfl!; apply evs_cons; apply ev_var; apply lk_tl; kernel_rfl!; apply lk_tl; kernel_rfl!; exact lk_hd; kernel_rfl!; exact evs_nil)
    intros
    kernel_rfl!
    intros
    kernel_rfl!
    intros
    (with_reducible kernel_rfl!; assumption)
    omega; intros
    (with_reducible kernel_rfl!; apply cp_step; exact If1.none; apply cpk_t; apply ev_call; kernel_rfl!; kernel_rfl!; apply evs_cons; apply ev_var; exact lk_hd; kernel_rfl!; apply evs_cons; apply ev_var; apply lk_tl; kernel_rfl!; exact lk_hd; kernel_rfl!; apply evs_cons; apply ev_var; apply lk_tl; kernel_rfl!; apply lk_tl; kernel_rfl!; exact lk_hd; kernel_rfl!; exact evs_nil)
    intros
    kernel_rfl!
    intros
    kernel_rfl!
    intros
    (with_reducible kernel_rfl!; assumption)
    omega; intros
    (with_reducible kernel_rfl!; exact Cp.nil; exact evs_nil)
    intros
    kernel_rfl!
    intros
    kernel_rfl!
    exact leT (by kernel_rfl!)
    (with_reducible kernel_rfl!; kernel_rfl!)
    intro env h; cases env; subst h
    (with_reducible kernel_rfl!; apply xk_nxt; apply xs_seq; apply x1_if; apply ts_cmp; apply ev_var; exact lk_hd; kernel_rfl!; exact ev_str; apply op_eqS)
    exact isF (by kernel_rfl!)
    (with_reducible kernel_rfl!; apply ar_f; exact xs_nil; apply xk_nxt; apply xs_seq; apply x1_if; apply ts_cmp; apply ev_var; exact lk_hd; kernel_rfl!; exact ev_str; apply op_eqS)
    exact isF (by kernel_rfl!)
    (with_reducible kernel_rfl!; apply ar_f; exact xs_nil; apply xk_nxt; apply xs_seq; apply x1_if; apply ts_cmp; apply ev_var; exact lk_hd; kernel_rfl!; apply ev_tup; apply evs_cons; exact ev_str; apply evs_cons; exact ev_str; exact evs_nil)
    intros
    kernel_rfl!
    intros
    kernel_rfl!
    exact leT (by kernel_rfl!)
    (with_reducible apply op_notInD; exact DP.str _; apply DPs.cons; exact DP.str _; apply DPs.cons; exact DP.str _; exact DPs.nil; kernel_rfl!; kernel_rfl!)
    exact leT (by kernel_rfl!); exact isF (by kernel_rfl!)
    (with_reducible kernel_rfl!; apply ar_f; exact xs_nil; apply xk_nxt; apply xs_seq; apply x1_assign; apply ev_if; apply ts_cmp; apply ev_var; exact lk_hd; kernel_rfl!; exact ev_str; apply op_eqS)
    exact isF (by kernel_rfl!)
    (with_reducible kernel_rfl!; apply are_f; apply ev_call; kernel_rfl!; kernel_rfl!; apply evs_cons; apply ev_var; apply lk_tl; kernel_rfl!; exact lk_hd; kernel_rfl!; exact evs_nil)
    intros
    (with_reducible kernel_rfl!; exact c_gprod3 (by assumption) _ _ _ (by assumption) (by assumption))
    omega; intros
    (with_reducible kernel_rfl!; kernel_rfl!)
    intros
    (with_reducible kernel_rfl!; apply xk_nxt; apply xs_seq; apply x1_if; apply ts_bool; apply tss_and; apply ts_val; apply ev_call; kernel_rfl!; kernel_rfl!; apply evs_cons; apply ev_call; kernel_rfl!; kernel_rfl!; apply evs_cons; apply ev_var; apply lk_tl; kernel_rfl!; apply lk_tl; kernel_rfl!; apply lk_tl; kernel_rfl!; apply lk_zip; exact lk_hd; kernel_rfl!; apply evs_cons; apply ev_var; apply lk_tl; kernel_rfl!; apply lk_tl; kernel_rfl!; exact lk_hd; kernel_rfl!; exact evs_nil)
    intros
    kernel_rfl!
    intros
    (with_reducible kernel_rfl!; exact c_wi_prod3 (by assumption) _ _ _ _ _ _)
    omega; intros
    (with_reducible kernel_rfl!; exact evs_nil)
    intros
    (with_reducible kernel_rfl!; exact c_hasratio3 (by assumption) _ _ _)
    omega; intros
    kernel_rfl!
    intros
    (with_reducible kernel_rfl!; exact ara_f; apply ar_f; exact xs_nil; apply xk_nxt; apply xs_seq; apply x1_return; apply ev_var; exact lk_hd; kernel_rfl!; exact xk_ret)
  · rfl

theorem c_set_call1 (F : Fa W) (b : Nat) (hb : 3 ≤ b) (x : D) (u : Int) (u0 : 0 ≤ u) (u1 : u ≤ 100) (h0 : CallOK W b (Str.ofString "settled") [x, .int 120, .int 20000] (Nm u)) : CallOK W (b + 1) (Str.ofString "settled") [Fc [x], .int 120, .int 20000] (Nm (fct u)) := by
  refine call_ok' (k := 82) (ps := [Str.ofString "t", Str.ofString "levels", Str.ofString "terms"]) (d' := ?d) rfl (by decide) rfl rfl (by kernel_rfl!) (fun _ _ _ => len3 fun _ _ _ => by kernel_rfl!) ?_ ?_
  rotate_left
  · conv => arg 5; whnf
    (with_reducible apply xs_seq; apply x1_swap2; apply ev_tup; apply evs_cons; apply ev_at; apply ev_var; apply lk_zip; exact lk_hd; kernel_rfl!; exact ev_int; apply At.tup; exact Nth.n0)
    intros
    (with_reducible kernel_rfl!; apply evs_cons; apply ev_lc; apply ev_call; kernel_rfl!; kernel_rfl!; apply evs_cons; apply ev_var; apply lk_zip; exact lk_hd; kernel_rfl!; exact evs_nil)
    intros
    (with_reducible kernel_rfl!; exact c_in_call1 (by assumption) _)
    omega; intros
    (with_reducible kernel_rfl!; exact itr_lst; apply cap2 (y := Str.ofString "levels") (z := Str.ofString "terms"); kernel_rfl!; kernel_rfl!; apply lk_zip; apply lk_tl; kernel_rfl!; apply lk_zip; exact lk_hd; kernel_rfl!; kernel_rfl!; kernel_rfl!; apply lk_zip; apply lk_tl; kernel_rfl!; apply lk_zip; apply lk_tl; kernel_rfl!; apply lk_zip; exact lk_hd; kernel_rfl!; kernel_rfl!; kernel_rfl!; kernel_rfl!)
    exact leT (by kernel_rfl!); intros
    (with_reducible kernel_rfl!; apply cp_step; exact If1.none; apply cpk_t; apply ev_call; kernel_rfl!; kernel_rfl!; apply evs_cons; apply ev_var; exact lk_hd; kernel_rfl!; apply evs_cons; apply ev_var; apply lk_tl; kernel_rfl!; exact lk_hd; kernel_rfl!; apply evs_cons; apply ev_var; apply lk_tl; kernel_rfl!; apply lk_tl; kernel_rfl!; exact lk_hd; kernel_rfl!; exact evs_nil)
    intros
    kernel_rfl!
    intros
    kernel_rfl!
    intros
    (with_reducible kernel_rfl!; assumption)
    omega; intros
    (with_reducible kernel_rfl!; exact Cp.nil; exact evs_nil)
    intros
    kernel_rfl!
    intros
    kernel_rfl!
    exact leT (by kernel_rfl!)
    (with_reducible kernel_rfl!; kernel_rfl!)
    intro env h; cases env; subst h
    (with_reducible kernel_rfl!; apply xk_nxt; apply xs_seq; apply x1_if; apply ts_cmp; apply ev_var; exact lk_hd; kernel_rfl!; exact ev_str; apply op_eqS)
    exact isT (by kernel_rfl!)
    (with_reducible kernel_rfl!; apply ar_t; apply xs_seq; apply x1_assign; apply ev_call; kernel_rfl!; kernel_rfl!; apply evs_cons; apply ev_at; apply ev_var; apply lk_tl; kernel_rfl!; apply lk_tl; kernel_rfl!; apply lk_zip; exact lk_hd; kernel_rfl!; exact ev_int; apply At.tup; exact Nth.n1)
    intros
    (with_reducible kernel_rfl!; apply evs_cons; apply ev_var; apply lk_tl; kernel_rfl!; exact lk_hd; kernel_rfl!; exact evs_nil)
    intros
    kernel_rfl!
    intros
    (with_reducible kernel_rfl!; exact c_callof (by assumption) _ (by assumption) (by assumption))
    omega; intros
    (with_reducible kernel_rfl!; kernel_rfl!)
    intros
    (with_reducible kernel_rfl!; apply xk_nxt; apply xs_seq; apply x1_if; apply ts_bool; apply tss_and; apply ts_cmp; apply ev_at; apply ev_var; apply lk_tl; kernel_rfl!; apply lk_tl; kernel_rfl!; apply lk_tl; kernel_rfl!; apply lk_zip; exact lk_hd; kernel_rfl!; exact ev_int; apply At.tup; exact Nth.n1)
    intros
    (with_reducible kernel_rfl!; exact ev_str; apply op_eqS)
    exact isF (by kernel_rfl!)
    (with_reducible kernel_rfl!; exact ara_f; apply ar_f; exact xs_nil; apply xk_nxt; apply xs_seq; apply x1_return; apply ev_var; exact lk_hd; kernel_rfl!; exact xk_ret; exact xk_ret)
  · rfl

theorem c_suball_sum (F : Fa W) (b : Nat) (hb : 4 ≤ b) (t u v : D) (l : Int) (hr : CallOK W b (Str.ofString "replaced") [t, .dct (Str.ofString "n") (Sm [Nm l, Nm 1])] u) (hg : CallOK W 2 (Str.ofString "is_too_great") [u, .int 120, .int 200000] (.bool false)) (hs : CallOK W b (Str.ofString "settled") [u, .int 120, .int 20000] v) :
    CallOK W (b + 1) (Str.ofString "substitute_all") [t, .dct (Str.ofString "n") (Sm [Nm l, Nm 1])] v := by
  refine call_ok' (k := 84) (ps := [Str.ofString "t", Str.ofString "known"]) (d' := ?d) rfl (by decide) rfl rfl (by kernel_rfl!) (fun _ _ _ => len2 fun _ _ => by kernel_rfl!) ?_ ?_
  rotate_left
  · conv => arg 5; whnf
    (with_reducible apply xs_seq; apply x1_assign; apply ev_call; kernel_rfl!; kernel_rfl!; apply evs_cons; apply ev_var; apply lk_zip; exact lk_hd; kernel_rfl!; apply evs_cons; apply ev_var; apply lk_zip; apply lk_tl; kernel_rfl!; apply lk_zip; exact lk_hd; kernel_rfl!; exact evs_nil)
    intros
    kernel_rfl!
    intros
    (with_reducible kernel_rfl!; assumption)
    omega; intros
    (with_reducible kernel_rfl!; kernel_rfl!)
    intros
    (with_reducible kernel_rfl!; apply xk_nxt; apply xs_seq; apply x1_assign; apply ev_cmp; apply ev_lc; apply ev_var; apply lk_tl; kernel_rfl!; apply lk_zip; apply lk_tl; kernel_rfl!; apply lk_zip; exact lk_hd; kernel_rfl!; exact itr_dct; apply cap1' (Str.ofString "known"); kernel_rfl!; apply lk_tl; kernel_rfl!; apply lk_zip; apply lk_tl; kernel_rfl!; apply lk_zip; exact lk_hd; kernel_rfl!; kernel_rfl!; kernel_rfl!; kernel_rfl!)
    exact leT (by kernel_rfl!); intros
    (with_reducible kernel_rfl!; apply cp_step; apply If1.one; apply ts_cmp; apply ev_call; kernel_rfl!; kernel_rfl!; apply evs_cons; apply ev_at; apply ev_var; apply lk_tl; kernel_rfl!; exact lk_hd; kernel_rfl!; apply ev_var; exact lk_hd; kernel_rfl!; exact At.dct)
    intros
    (with_reducible kernel_rfl!; exact evs_nil)
    intros
    (with_reducible kernel_rfl!; exact c_in_sum2 (by assumption) _ _)
    omega; intros
    (with_reducible kernel_rfl!; apply ev_lst; exact evs_nil)
    exact leT (by kernel_rfl!)
    (with_reducible apply op_neD; apply DP.lst; apply DPs.cons; apply DP.tup; apply DPs.cons; exact DP.str _; apply DPs.cons; exact DP.int _; apply DPs.cons; exact DP.int _; exact DPs.nil; apply DPs.cons; apply DP.tup; apply DPs.cons; exact DP.str _; apply DPs.cons; exact DP.int _; apply DPs.cons; exact DP.int _; exact DPs.nil; exact DPs.nil; apply DP.lst; exact DPs.nil; kernel_rfl!; kernel_rfl!)
    exact leT (by kernel_rfl!); exact isT (by kernel_rfl!)
    (with_reducible kernel_rfl!; apply cpk_t; exact ev_int; exact Cp.nil; apply ev_lst; exact evs_nil)
    exact leT (by kernel_rfl!)
    (with_reducible apply op_neD; apply DP.lst; apply DPs.cons; exact DP.int _; exact DPs.nil; apply DP.lst; exact DPs.nil; kernel_rfl!; kernel_rfl!)
    exact leT (by kernel_rfl!); exact isT (by kernel_rfl!)
    (with_reducible kernel_rfl!; kernel_rfl!)
    intros
    (with_reducible kernel_rfl!; apply xk_nxt; apply xs_seq; apply x1_if; apply ts_bool; apply tss_and; apply ts_val; apply ev_var; exact lk_hd; kernel_rfl!)
    intros
    (with_reducible kernel_rfl!; apply ara_t; apply tss_and; apply ts_val; apply ev_call; kernel_rfl!; kernel_rfl!; apply evs_cons; apply ev_var; apply lk_tl; kernel_rfl!; exact lk_hd; kernel_rfl!; apply evs_cons; apply ev_con; exact Fa.levels (by assumption); kernel_rfl!; kernel_rfl!; apply evs_cons; apply ev_con; exact Fa.raw (by assumption); kernel_rfl!; kernel_rfl!; exact evs_nil)
    intros
    kernel_rfl!
    intros
    kernel_rfl!
    intros
    (with_reducible kernel_rfl!; assumption)
    omega; intros
    kernel_rfl!
    intros
    (with_reducible kernel_rfl!; exact ara_f; apply ar_f; exact xs_nil; apply xk_nxt; apply xs_seq; apply x1_return; apply ev_call; kernel_rfl!; kernel_rfl!; apply evs_cons; apply ev_var; apply lk_tl; kernel_rfl!; exact lk_hd; kernel_rfl!; apply evs_cons; apply ev_con; exact Fa.levels (by assumption); kernel_rfl!; kernel_rfl!; apply evs_cons; apply ev_con; exact Fa.terms (by assumption); kernel_rfl!; kernel_rfl!; exact evs_nil)
    intros
    kernel_rfl!
    intros
    kernel_rfl!
    intros
    (with_reducible kernel_rfl!; assumption)
    omega; intros
    (with_reducible kernel_rfl!; exact xk_ret)
  · rfl

theorem c_suball_num (F : Fa W) (b : Nat) (hb : 4 ≤ b) (t u v : D) (l : Int) (hr : CallOK W b (Str.ofString "replaced") [t, .dct (Str.ofString "n") (Nm l)] u) (hs : CallOK W b (Str.ofString "settled") [u, .int 120, .int 20000] v) :
    CallOK W (b + 1) (Str.ofString "substitute_all") [t, .dct (Str.ofString "n") (Nm l)] v := by
  refine call_ok' (k := 84) (ps := [Str.ofString "t", Str.ofString "known"]) (d' := ?d) rfl (by decide) rfl rfl (by kernel_rfl!) (fun _ _ _ => len2 fun _ _ => by kernel_rfl!) ?_ ?_
  rotate_left
  · conv => arg 5; whnf
    (with_reducible apply xs_seq; apply x1_assign; apply ev_call; kernel_rfl!; kernel_rfl!; apply evs_cons; apply ev_var; apply lk_zip; exact lk_hd; kernel_rfl!; apply evs_cons; apply ev_var; apply lk_zip; apply lk_tl; kernel_rfl!; apply lk_zip; exact lk_hd; kernel_rfl!; exact evs_nil)
    intros
    kernel_rfl!
    intros
    (with_reducible kernel_rfl!; assumption)
    omega; intros
    (with_reducible kernel_rfl!; kernel_rfl!)
    intros
    (with_reducible kernel_rfl!; apply xk_nxt; apply xs_seq; apply x1_assign; apply ev_cmp; apply ev_lc; apply ev_var; apply lk_tl; kernel_rfl!; apply lk_zip; apply lk_tl; kernel_rfl!; apply lk_zip; exact lk_hd; kernel_rfl!; exact itr_dct; apply cap1' (Str.ofString "known"); kernel_rfl!; apply lk_tl; kernel_rfl!; apply lk_zip; apply lk_tl; kernel_rfl!; apply lk_zip; exact lk_hd; kernel_rfl!; kernel_rfl!; kernel_rfl!; kernel_rfl!)
    exact leT (by kernel_rfl!); intros
    (with_reducible kernel_rfl!; apply cp_step; apply If1.one; apply ts_cmp; apply ev_call; kernel_rfl!; kernel_rfl!; apply evs_cons; apply ev_at; apply ev_var; apply lk_tl; kernel_rfl!; exact lk_hd; kernel_rfl!; apply ev_var; exact lk_hd; kernel_rfl!; exact At.dct)
    intros
    (with_reducible kernel_rfl!; exact evs_nil)
    intros
    (with_reducible kernel_rfl!; exact c_in_num (by assumption) _)
    omega; intros
    (with_reducible kernel_rfl!; apply ev_lst; exact evs_nil)
    exact leT (by kernel_rfl!)
    (with_reducible apply op_neD; apply DP.lst; exact DPs.nil; apply DP.lst; exact DPs.nil; kernel_rfl!; kernel_rfl!)
    exact leT (by kernel_rfl!); exact isF (by kernel_rfl!)
    (with_reducible kernel_rfl!; apply cpk_f; exact Cp.nil; apply ev_lst; exact evs_nil)
    exact leT (by kernel_rfl!)
    (with_reducible apply op_neD; apply DP.lst; exact DPs.nil; apply DP.lst; exact DPs.nil; kernel_rfl!; kernel_rfl!)
    exact leT (by kernel_rfl!); exact isF (by kernel_rfl!)
    (with_reducible kernel_rfl!; kernel_rfl!)
    intros
    (with_reducible kernel_rfl!; apply xk_nxt; apply xs_seq; apply x1_if; apply ts_bool; apply tss_and; apply ts_val; apply ev_var; exact lk_hd; kernel_rfl!)
    intros
    (with_reducible kernel_rfl!; exact ara_f; apply ar_f; exact xs_nil; apply xk_nxt; apply xs_seq; apply x1_return; apply ev_call; kernel_rfl!; kernel_rfl!; apply evs_cons; apply ev_var; apply lk_tl; kernel_rfl!; exact lk_hd; kernel_rfl!; apply evs_cons; apply ev_con; exact Fa.levels (by assumption); kernel_rfl!; kernel_rfl!; apply evs_cons; apply ev_con; exact Fa.terms (by assumption); kernel_rfl!; kernel_rfl!; exact evs_nil)
    intros
    kernel_rfl!
    intros
    kernel_rfl!
    intros
    (with_reducible kernel_rfl!; assumption)
    omega; intros
    (with_reducible kernel_rfl!; exact xk_ret)
  · rfl

theorem c_subst (F : Fa W) (b : Nat) (t v by0 : D) (h : CallOK W b (Str.ofString "substitute_all") [t, .dct (Str.ofString "n") by0] v) :
    CallOK W (b + 1) (Str.ofString "substitute") [t, .str (Str.ofString "n"), by0] v := by
  refine call_ok' (k := 83) (ps := [Str.ofString "t", Str.ofString "name", Str.ofString "by"]) (d' := ?d) rfl (by decide) rfl rfl (by kernel_rfl!) (fun _ _ _ => len3 fun _ _ _ => by kernel_rfl!) ?_ ?_
  rotate_left
  · conv => arg 5; whnf
    (with_reducible apply xs_seq; apply x1_return; apply ev_call; kernel_rfl!; kernel_rfl!; apply evs_cons; apply ev_var; apply lk_zip; exact lk_hd; kernel_rfl!; apply evs_cons; apply ev_dict1; apply ev_var; apply lk_zip; apply lk_tl; kernel_rfl!; apply lk_zip; exact lk_hd; kernel_rfl!; apply ev_var; apply lk_zip; apply lk_tl; kernel_rfl!; apply lk_zip; apply lk_tl; kernel_rfl!; apply lk_zip; exact lk_hd; kernel_rfl!; exact evs_nil)
    intros
    kernel_rfl!
    intros
    (with_reducible kernel_rfl!; assumption)
    omega; intros
    (with_reducible kernel_rfl!; exact xk_ret)
  · rfl

theorem c_law_product (F : Fa W) (x : Int) (h0 : -100 ≤ x) (h1 : x ≤ 100) : CallOK W 1 (Str.ofString "_law_product") [.int x] (.int (fct x)) := by
  refine call_ok' (k := 90) (ps := [Str.ofString "last"]) (d' := ?d) rfl (by decide) rfl rfl (by kernel_rfl!) (fun _ _ _ => len1 fun _ => by kernel_rfl!) ?_ ?_
  rotate_left
  · conv => arg 5; whnf
    (with_reducible apply xs_seq; apply x1_assign; exact ev_int; kernel_rfl!)
    intros
    (with_reducible kernel_rfl!; apply xk_nxt; apply xs_seq; apply x1_fact (xf := Str.ofString "found"); kernel_rfl!; apply ev_call_ty; exact bi_range (by assumption); kernel_rfl!; kernel_rfl!; apply evs_cons; exact ev_int; apply evs_cons; apply ev_bin; apply ev_var; apply lk_tl; kernel_rfl!; apply lk_zip; exact lk_hd; kernel_rfl!; exact ev_int; exact op_add; exact evs_nil)
    intros
    kernel_rfl!
    intros
    (with_reducible kernel_rfl!; exact cv_range)
    intros
    kernel_rfl!
    intros
    (with_reducible kernel_rfl!; kernel_rfl!; exact lk_hd; kernel_rfl!)
    omega; omega; intros
    kernel_rfl!
    intro σ f a q1 q2 q3
    (with_reducible apply xs_seq; apply x1_assign; apply ev_bin; apply ev_var; assumption; kernel_rfl!; apply ev_var; assumption; kernel_rfl!; apply op_mul)
    assumption
    kernel_rfl!
    intros
    (with_reducible kernel_rfl!; apply xk_nxt; exact xs_nil; apply xk_nxt; apply xs_seq; apply x1_return; apply ev_var; exact lk_hd; kernel_rfl!; exact xk_ret)
  · rfl
theorem r_fact (F : Fa W) (n : Int) (n0 : n < 0) (n1 : -100 ≤ n) : CallR W W 4 (Str.ofString "factorial_of") [Nm n] := by
  refine call_raise (k := 69) (ps := [Str.ofString "arg"]) (b := 3) rfl (by decide) rfl rfl (by kernel_rfl!) (fun _ _ _ => len1 fun _ => by kernel_rfl!) ?_
  conv => arg 6; whnf
  apply xsr_cons
  (with_reducible apply x1_if; apply ts_bool; apply tss_or; apply ts_nt; apply ts_val; apply ev_call; kernel_rfl!; kernel_rfl!; apply evs_cons; apply ev_var; apply lk_zip; exact lk_hd; kernel_rfl!; exact evs_nil)
  intros
  (with_reducible kernel_rfl!; exact c_whole (by assumption) _)
  exact leT (by kernel_rfl!); intros
  kernel_rfl!
  intros
  (with_reducible kernel_rfl!; exact Nt.t; apply aro_f; apply tss_or; apply ts_cmp; apply ev_at; apply ev_var; apply lk_zip; exact lk_hd; kernel_rfl!; exact ev_int; apply At.tup; exact Nth.n1)
  intros
  (with_reducible kernel_rfl!; apply ev_con; exact Fa.fact (by assumption); kernel_rfl!; kernel_rfl!; apply op_gtI; apply decF)
  omega
  (with_reducible kernel_rfl!; apply aro_f; exact tss_or_nil; apply ar_f; exact xs_nil)
  refine xsr_hd (x1r_if ?_ (xsr_hd (x1r_raise F ?_)))
  (with_reducible apply ts_cmp; apply ev_at; apply ev_var; apply lk_zip; exact lk_hd; kernel_rfl!; exact ev_int; apply At.tup; exact Nth.n1)
  intros
  (with_reducible kernel_rfl!; exact ev_int; apply op_ltI; apply decT)
  omega
  (with_reducible kernel_rfl!; kernel_rfl!)
theorem r_callof (F : Fa W) (n : Int) (n0 : n < 0) (n1 : -100 ≤ n) : CallR W W 5 (Str.ofString "call_of") [.str (Str.ofString "factorial"), .lst [Nm n]] := by
  refine call_raise (k := 70) (ps := [Str.ofString "name", Str.ofString "args"]) (b := 4) rfl (by decide) rfl rfl (by kernel_rfl!) (fun _ _ _ => len2 fun _ _ => by kernel_rfl!) ?_
  conv => arg 6; whnf
  apply xsr_cons
  (with_reducible apply x1_if; apply ts_cmp; apply ev_call_bi; exact bi_len (by assumption); kernel_rfl!; kernel_rfl!; apply evs_cons; apply ev_var; apply lk_zip; apply lk_tl; kernel_rfl!; apply lk_zip; exact lk_hd; kernel_rfl!; exact evs_nil)
  intros
  (with_reducible kernel_rfl!; apply cv_lenL; exact Len.l1)
  intros
  kernel_rfl!
  intros
  (with_reducible kernel_rfl!; exact ev_int; apply op_neI)
  exact isF (by kernel_rfl!)
  (with_reducible kernel_rfl!; apply ar_f; exact xs_nil)
  apply xsr_cons
  (with_reducible apply x1_assign; apply ev_at; apply ev_var; apply lk_zip; apply lk_tl; kernel_rfl!; apply lk_zip; exact lk_hd; kernel_rfl!; exact ev_int; apply At.lst; exact Nth.n0)
  intros
  (with_reducible kernel_rfl!; kernel_rfl!)
  intros
  kernel_rfl!
  apply xsr_cons
  (with_reducible apply x1_if; apply ts_cmp; apply ev_var; apply lk_tl; kernel_rfl!; apply lk_zip; exact lk_hd; kernel_rfl!; exact ev_str; apply op_eqS)
  exact isF (by kernel_rfl!)
  (with_reducible kernel_rfl!; apply ar_f; exact xs_nil)
  apply xsr_cons
  (with_reducible apply x1_if; apply ts_cmp; apply ev_var; apply lk_tl; kernel_rfl!; apply lk_zip; exact lk_hd; kernel_rfl!; exact ev_str; apply op_eqS)
  exact isF (by kernel_rfl!)
  (with_reducible kernel_rfl!; apply ar_f; exact xs_nil)
  apply xsr_cons
  (with_reducible apply x1_if; apply ts_cmp; apply ev_var; apply lk_tl; kernel_rfl!; apply lk_zip; exact lk_hd; kernel_rfl!; exact ev_str; apply op_eqS)
  exact isF (by kernel_rfl!)
  (with_reducible kernel_rfl!; apply ar_f; exact xs_nil)
  refine xsr_hd (x1r_if ?_ (xsr_hd (x1r_ret (evr_call ?_ ?_ ?_ (r_fact F n n0 n1) ?_ ?_))))
  (with_reducible apply ts_cmp; apply ev_var; apply lk_tl; kernel_rfl!; apply lk_zip; exact lk_hd; kernel_rfl!; exact ev_str; apply op_eqS; kernel_rfl!; kernel_rfl!; kernel_rfl!; kernel_rfl!; apply evs_cons; apply ev_var; exact lk_hd; kernel_rfl!; exact evs_nil)
  intros
  kernel_rfl!
  exact leT (by kernel_rfl!); intros
  kernel_rfl!
theorem r_set_call (F : Fa W) (n : Int) (n0 : n < 0) (n1 : -100 ≤ n) (b : Nat) (hb : 5 ≤ b) (x : D) (h0 : CallOK W b (Str.ofString "settled") [x, .int 120, .int 20000] (Nm n)) : CallR W W (b + 1) (Str.ofString "settled") [Fc [x], .int 120, .int 20000] := by
  refine call_raise (k := 82) (ps := [Str.ofString "t", Str.ofString "levels", Str.ofString "terms"]) (b := b) rfl (by decide) rfl rfl (by kernel_rfl!) (fun _ _ _ => len3 fun _ _ _ => by kernel_rfl!) ?_
  conv => arg 6; whnf
  apply xsr_cons
  (with_reducible apply x1_swap2; apply ev_tup; apply evs_cons; apply ev_at; apply ev_var; apply lk_zip; exact lk_hd; kernel_rfl!; exact ev_int; apply At.tup; exact Nth.n0)
  intros
  (with_reducible kernel_rfl!; apply evs_cons; apply ev_lc; apply ev_call; kernel_rfl!; kernel_rfl!; apply evs_cons; apply ev_var; apply lk_zip; exact lk_hd; kernel_rfl!; exact evs_nil)
  intros
  (with_reducible kernel_rfl!; exact c_in_call1 (by assumption) _)
  omega; intros
  (with_reducible kernel_rfl!; exact itr_lst; apply cap2 (y := Str.ofString "levels") (z := Str.ofString "terms"); kernel_rfl!; kernel_rfl!; apply lk_zip; apply lk_tl; kernel_rfl!; apply lk_zip; exact lk_hd; kernel_rfl!; kernel_rfl!; kernel_rfl!; apply lk_zip; apply lk_tl; kernel_rfl!; apply lk_zip; apply lk_tl; kernel_rfl!; apply lk_zip; exact lk_hd; kernel_rfl!; kernel_rfl!; kernel_rfl!; kernel_rfl!)
  exact leT (by kernel_rfl!); intros
  (with_reducible kernel_rfl!; apply cp_step; exact If1.none; apply cpk_t; apply ev_call; kernel_rfl!; kernel_rfl!; apply evs_cons; apply ev_var; exact lk_hd; kernel_rfl!; apply evs_cons; apply ev_var; apply lk_tl; kernel_rfl!; exact lk_hd; kernel_rfl!; apply evs_cons; apply ev_var; apply lk_tl; kernel_rfl!; apply lk_tl; kernel_rfl!; exact lk_hd; kernel_rfl!; exact evs_nil)
  intros
  kernel_rfl!
  intros
  kernel_rfl!
  intros
  (with_reducible kernel_rfl!; assumption)
  omega; intros
  (with_reducible kernel_rfl!; exact Cp.nil; exact evs_nil)
  intros
  kernel_rfl!
  intros
  kernel_rfl!
  exact leT (by kernel_rfl!)
  (with_reducible kernel_rfl!; kernel_rfl!)
  intro env h; cases env; subst h
  kernel_rfl!
  refine xsr_hd (x1r_if ?_ (xsr_hd (x1r_asg (evr_call ?_ ?_ ?_ (r_callof F n n0 n1) hb ?_) ?_)))
  (with_reducible apply ts_cmp; apply ev_var; exact lk_hd; kernel_rfl!; exact ev_str; apply op_eqS; kernel_rfl!; kernel_rfl!; kernel_rfl!; kernel_rfl!; apply evs_cons; apply ev_at; apply ev_var; apply lk_tl; kernel_rfl!; apply lk_tl; kernel_rfl!; apply lk_zip; exact lk_hd; kernel_rfl!; exact ev_int; apply At.tup; exact Nth.n1)
  intros
  (with_reducible kernel_rfl!; apply evs_cons; apply ev_var; apply lk_tl; kernel_rfl!; exact lk_hd; kernel_rfl!; exact evs_nil)
  intros
  kernel_rfl!
  intros
  kernel_rfl!
  intros
  kernel_rfl!
  intros
  kernel_rfl!
theorem r_set_prod2 (F : Fa W) (b : Nat) (hb : 5 ≤ b) (x y : D) (v : D) (h0 : CallOK W b (Str.ofString "settled") [x, .int 120, .int 20000] v) (h1 : CallR W W b (Str.ofString "settled") [y, .int 120, .int 20000]) : CallR W W (b + 1) (Str.ofString "settled") [Pr [x, y], .int 120, .int 20000] := by
  refine call_raise (k := 82) (ps := [Str.ofString "t", Str.ofString "levels", Str.ofString "terms"]) (b := b) rfl (by decide) rfl rfl (by kernel_rfl!) (fun _ _ _ => len3 fun _ _ _ => by kernel_rfl!) ?_
  conv => arg 6; whnf
  refine xsr_hd (x1r_swap2 (evr_tup2 (d := ?d) ?_ (evr_lc (c := .lst [x, y]) (ds := [x, y]) (τ := [(Str.ofString "levels", .int 120), (Str.ofString "terms", .int 20000)]) ?_ ?_ ?_ ?_ ?_ ?_ (.take (v := v) ?_ (.raise (evr_call (ds := [y, .int 120, .int 20000]) ?_ ?_ ?_ h1 (Nat.le_refl _) ?_)))) ?_ ?_) ?_)
  rotate_left
  (with_reducible apply ev_at; apply ev_var; apply lk_zip; exact lk_hd; kernel_rfl!; exact ev_int; apply At.tup; exact Nth.n0)
  intros
  (with_reducible kernel_rfl!; apply ev_call; kernel_rfl!; kernel_rfl!; apply evs_cons; apply ev_var; apply lk_zip; exact lk_hd; kernel_rfl!; exact evs_nil)
  intros
  (with_reducible kernel_rfl!; exact c_in_prod2 (by assumption) _ _)
  omega; intros
  (with_reducible kernel_rfl!; exact itr_lst; apply cap2 (y := Str.ofString "levels") (z := Str.ofString "terms"); kernel_rfl!; kernel_rfl!; apply lk_zip; apply lk_tl; kernel_rfl!; apply lk_zip; exact lk_hd; kernel_rfl!; kernel_rfl!; kernel_rfl!; apply lk_zip; apply lk_tl; kernel_rfl!; apply lk_zip; apply lk_tl; kernel_rfl!; apply lk_zip; exact lk_hd; kernel_rfl!; kernel_rfl!; kernel_rfl!; kernel_rfl!)
  exact leT (by kernel_rfl!); intros
  (with_reducible kernel_rfl!; apply ev_call; kernel_rfl!; kernel_rfl!; apply evs_cons; apply ev_var; exact lk_hd; kernel_rfl!; apply evs_cons; apply ev_var; apply lk_tl; kernel_rfl!; exact lk_hd; kernel_rfl!; apply evs_cons; apply ev_var; apply lk_tl; kernel_rfl!; apply lk_tl; kernel_rfl!; exact lk_hd; kernel_rfl!; exact evs_nil)
  intros
  kernel_rfl!
  intros
  kernel_rfl!
  intros
  (with_reducible kernel_rfl!; assumption)
  omega; intros
  (with_reducible kernel_rfl!; kernel_rfl!; kernel_rfl!; apply evs_cons; apply ev_var; exact lk_hd; kernel_rfl!; apply evs_cons; apply ev_var; apply lk_tl; kernel_rfl!; exact lk_hd; kernel_rfl!; apply evs_cons; apply ev_var; apply lk_tl; kernel_rfl!; apply lk_tl; kernel_rfl!; exact lk_hd; kernel_rfl!; exact evs_nil)
  intros
  kernel_rfl!
  intros
  kernel_rfl!
  intros
  kernel_rfl!
  intros
  kernel_rfl!
  intros
  kernel_rfl!
  intros
  kernel_rfl!
  intro env h; cases env; subst h
  kernel_rfl!
theorem r_set_prod3 (F : Fa W) (b : Nat) (hb : 5 ≤ b) (x y z : D) (v : D) (h0 : CallOK W b (Str.ofString "settled") [x, .int 120, .int 20000] v) (h1 : CallR W W b (Str.ofString "settled") [y, .int 120, .int 20000]) : CallR W W (b + 1) (Str.ofString "settled") [Pr [x, y, z], .int 120, .int 20000] := by
  refine call_raise (k := 82) (ps := [Str.ofString "t", Str.ofString "levels", Str.ofString "terms"]) (b := b) rfl (by decide) rfl rfl (by kernel_rfl!) (fun _ _ _ => len3 fun _ _ _ => by kernel_rfl!) ?_
  conv => arg 6; whnf
  refine xsr_hd (x1r_swap2 (evr_tup2 (d := ?d) ?_ (evr_lc (c := .lst [x, y, z]) (ds := [x, y, z]) (τ := [(Str.ofString "levels", .int 120), (Str.ofString "terms", .int 20000)]) ?_ ?_ ?_ ?_ ?_ ?_ (.take (v := v) ?_ (.raise (evr_call (ds := [y, .int 120, .int 20000]) ?_ ?_ ?_ h1 (Nat.le_refl _) ?_)))) ?_ ?_) ?_)
  rotate_left
  (with_reducible apply ev_at; apply ev_var; apply lk_zip; exact lk_hd; kernel_rfl!; exact ev_int; apply At.tup; exact Nth.n0)
  intros
  (with_reducible kernel_rfl!; apply ev_call; kernel_rfl!; kernel_rfl!; apply evs_cons; apply ev_var; apply lk_zip; exact lk_hd; kernel_rfl!; exact evs_nil)
  intros
  (with_reducible kernel_rfl!; exact c_in_prod3 (by assumption) _ _ _)
  omega; intros
  (with_reducible kernel_rfl!; exact itr_lst; apply cap2 (y := Str.ofString "levels") (z := Str.ofString "terms"); kernel_rfl!; kernel_rfl!; apply lk_zip; apply lk_tl; kernel_rfl!; apply lk_zip; exact lk_hd; kernel_rfl!; kernel_rfl!; kernel_rfl!; apply lk_zip; apply lk_tl; kernel_rfl!; apply lk_zip; apply lk_tl; kernel_rfl!; apply lk_zip; exact lk_hd; kernel_rfl!; kernel_rfl!; kernel_rfl!; kernel_rfl!)
  exact leT (by kernel_rfl!); intros
  (with_reducible kernel_rfl!; apply ev_call; kernel_rfl!; kernel_rfl!; apply evs_cons; apply ev_var; exact lk_hd; kernel_rfl!; apply evs_cons; apply ev_var; apply lk_tl; kernel_rfl!; exact lk_hd; kernel_rfl!; apply evs_cons; apply ev_var; apply lk_tl; kernel_rfl!; apply lk_tl; kernel_rfl!; exact lk_hd; kernel_rfl!; exact evs_nil)
  intros
  kernel_rfl!
  intros
  kernel_rfl!
  intros
  (with_reducible kernel_rfl!; assumption)
  omega; intros
  (with_reducible kernel_rfl!; kernel_rfl!; kernel_rfl!; apply evs_cons; apply ev_var; exact lk_hd; kernel_rfl!; apply evs_cons; apply ev_var; apply lk_tl; kernel_rfl!; exact lk_hd; kernel_rfl!; apply evs_cons; apply ev_var; apply lk_tl; kernel_rfl!; apply lk_tl; kernel_rfl!; exact lk_hd; kernel_rfl!; exact evs_nil)
  intros
  kernel_rfl!
  intros
  kernel_rfl!
  intros
  kernel_rfl!
  intros
  kernel_rfl!
  intros
  kernel_rfl!
  intros
  kernel_rfl!
  intro env h; cases env; subst h
  kernel_rfl!
theorem r_suball_sum (F : Fa W) (b : Nat) (hb : 4 ≤ b) (t u : D) (l : Int) (hr : CallOK W b (Str.ofString "replaced") [t, .dct (Str.ofString "n") (Sm [Nm l, Nm 1])] u) (hg : CallOK W 2 (Str.ofString "is_too_great") [u, .int 120, .int 200000] (.bool false)) (hs : CallR W W b (Str.ofString "settled") [u, .int 120, .int 20000]) :
    CallR W W (b + 1) (Str.ofString "substitute_all") [t, .dct (Str.ofString "n") (Sm [Nm l, Nm 1])] := by
  refine call_raise (k := 84) (ps := [Str.ofString "t", Str.ofString "known"]) (b := b) rfl (by decide) rfl rfl (by kernel_rfl!) (fun _ _ _ => len2 fun _ _ => by kernel_rfl!) ?_
  conv => arg 6; whnf
  apply xsr_cons
  (with_reducible apply x1_assign; apply ev_call; kernel_rfl!; kernel_rfl!; apply evs_cons; apply ev_var; apply lk_zip; exact lk_hd; kernel_rfl!; apply evs_cons; apply ev_var; apply lk_zip; apply lk_tl; kernel_rfl!; apply lk_zip; exact lk_hd; kernel_rfl!; exact evs_nil)
  intros
  kernel_rfl!
  intros
  (with_reducible kernel_rfl!; assumption)
  omega; intros
  (with_reducible kernel_rfl!; kernel_rfl!)
  intros
  kernel_rfl!
  apply xsr_cons
  (with_reducible apply x1_assign; apply ev_cmp; apply ev_lc; apply ev_var; apply lk_tl; kernel_rfl!; apply lk_zip; apply lk_tl; kernel_rfl!; apply lk_zip; exact lk_hd; kernel_rfl!; exact itr_dct; apply cap1' (Str.ofString "known"); kernel_rfl!; apply lk_tl; kernel_rfl!; apply lk_zip; apply lk_tl; kernel_rfl!; apply lk_zip; exact lk_hd; kernel_rfl!; kernel_rfl!; kernel_rfl!; kernel_rfl!)
  exact leT (by kernel_rfl!); intros
  (with_reducible kernel_rfl!; apply cp_step; apply If1.one; apply ts_cmp; apply ev_call; kernel_rfl!; kernel_rfl!; apply evs_cons; apply ev_at; apply ev_var; apply lk_tl; kernel_rfl!; exact lk_hd; kernel_rfl!; apply ev_var; exact lk_hd; kernel_rfl!; exact At.dct)
  intros
  (with_reducible kernel_rfl!; exact evs_nil)
  intros
  (with_reducible kernel_rfl!; exact c_in_sum2 (by assumption) _ _)
  omega; intros
  (with_reducible kernel_rfl!; apply ev_lst; exact evs_nil)
  exact leT (by kernel_rfl!)
  (with_reducible apply op_neD; apply DP.lst; apply DPs.cons; apply DP.tup; apply DPs.cons; exact DP.str _; apply DPs.cons; exact DP.int _; apply DPs.cons; exact DP.int _; exact DPs.nil; apply DPs.cons; apply DP.tup; apply DPs.cons; exact DP.str _; apply DPs.cons; exact DP.int _; apply DPs.cons; exact DP.int _; exact DPs.nil; exact DPs.nil; apply DP.lst; exact DPs.nil; kernel_rfl!; kernel_rfl!)
  exact leT (by kernel_rfl!); exact isT (by kernel_rfl!)
  (with_reducible kernel_rfl!; apply cpk_t; exact ev_int; exact Cp.nil; apply ev_lst; exact evs_nil)
  exact leT (by kernel_rfl!)
  (with_reducible apply op_neD; apply DP.lst; apply DPs.cons; exact DP.int _; exact DPs.nil; apply DP.lst; exact DPs.nil; kernel_rfl!; kernel_rfl!)
  exact leT (by kernel_rfl!); exact isT (by kernel_rfl!)
  (with_reducible kernel_rfl!; kernel_rfl!)
  intros
  kernel_rfl!
  apply xsr_cons
  (with_reducible apply x1_if; apply ts_bool; apply tss_and; apply ts_val; apply ev_var; exact lk_hd; kernel_rfl!)
  intros
  (with_reducible kernel_rfl!; apply ara_t; apply tss_and; apply ts_val; apply ev_call; kernel_rfl!; kernel_rfl!; apply evs_cons; apply ev_var; apply lk_tl; kernel_rfl!; exact lk_hd; kernel_rfl!; apply evs_cons; apply ev_con; exact Fa.levels (by assumption); kernel_rfl!; kernel_rfl!; apply evs_cons; apply ev_con; exact Fa.raw (by assumption); kernel_rfl!; kernel_rfl!; exact evs_nil)
  intros
  kernel_rfl!
  intros
  kernel_rfl!
  intros
  (with_reducible kernel_rfl!; assumption)
  omega; intros
  kernel_rfl!
  intros
  (with_reducible kernel_rfl!; exact ara_f; apply ar_f; exact xs_nil)
  refine xsr_hd (x1r_ret (evr_call ?_ ?_ ?_ hs (Nat.le_refl _) ?_))
  (with_reducible kernel_rfl!; kernel_rfl!; apply evs_cons; apply ev_var; apply lk_tl; kernel_rfl!; exact lk_hd; kernel_rfl!; apply evs_cons; apply ev_con; exact Fa.levels (by assumption); kernel_rfl!; kernel_rfl!; apply evs_cons; apply ev_con; exact Fa.terms (by assumption); kernel_rfl!; kernel_rfl!; exact evs_nil)
  intros
  kernel_rfl!
  intros
  kernel_rfl!
  intros
  kernel_rfl!
  intros
  kernel_rfl!
theorem r_suball_num (F : Fa W) (b : Nat) (hb : 4 ≤ b) (t u : D) (l : Int) (hr : CallOK W b (Str.ofString "replaced") [t, .dct (Str.ofString "n") (Nm l)] u) (hs : CallR W W b (Str.ofString "settled") [u, .int 120, .int 20000]) :
    CallR W W (b + 1) (Str.ofString "substitute_all") [t, .dct (Str.ofString "n") (Nm l)] := by
  refine call_raise (k := 84) (ps := [Str.ofString "t", Str.ofString "known"]) (b := b) rfl (by decide) rfl rfl (by kernel_rfl!) (fun _ _ _ => len2 fun _ _ => by kernel_rfl!) ?_
  conv => arg 6; whnf
  apply xsr_cons
  (with_reducible apply x1_assign; apply ev_call; kernel_rfl!; kernel_rfl!; apply evs_cons; apply ev_var; apply lk_zip; exact lk_hd; kernel_rfl!; apply evs_cons; apply ev_var; apply lk_zip; apply lk_tl; kernel_rfl!; apply lk_zip; exact lk_hd; kernel_rfl!; exact evs_nil)
  intros
  kernel_rfl!
  intros
  (with_reducible kernel_rfl!; assumption)
  omega; intros
  (with_reducible kernel_rfl!; kernel_rfl!)
  intros
  kernel_rfl!
  apply xsr_cons
  (with_reducible apply x1_assign; apply ev_cmp; apply ev_lc; apply ev_var; apply lk_tl; kernel_rfl!; apply lk_zip; apply lk_tl; kernel_rfl!; apply lk_zip; exact lk_hd; kernel_rfl!; exact itr_dct; apply cap1' (Str.ofString "known"); kernel_rfl!; apply lk_tl; kernel_rfl!; apply lk_zip; apply lk_tl; kernel_rfl!; apply lk_zip; exact lk_hd; kernel_rfl!; kernel_rfl!; kernel_rfl!; kernel_rfl!)
  exact leT (by kernel_rfl!); intros
  (with_reducible kernel_rfl!; apply cp_step; apply If1.one; apply ts_cmp; apply ev_call; kernel_rfl!; kernel_rfl!; apply evs_cons; apply ev_at; apply ev_var; apply lk_tl; kernel_rfl!; exact lk_hd; kernel_rfl!; apply ev_var; exact lk_hd; kernel_rfl!; exact At.dct)
  intros
  (with_reducible kernel_rfl!; exact evs_nil)
  intros
  (with_reducible kernel_rfl!; exact c_in_num (by assumption) _)
  omega; intros
  (with_reducible kernel_rfl!; apply ev_lst; exact evs_nil)
  exact leT (by kernel_rfl!)
  (with_reducible apply op_neD; apply DP.lst; exact DPs.nil; apply DP.lst; exact DPs.nil; kernel_rfl!; kernel_rfl!)
  exact leT (by kernel_rfl!); exact isF (by kernel_rfl!)
  (with_reducible kernel_rfl!; apply cpk_f; exact Cp.nil; apply ev_lst; exact evs_nil)
  exact leT (by kernel_rfl!)
  (with_reducible apply op_neD; apply DP.lst; exact DPs.nil; apply DP.lst; exact DPs.nil; kernel_rfl!; kernel_rfl!)
  exact leT (by kernel_rfl!); exact isF (by kernel_rfl!)
  (with_reducible kernel_rfl!; kernel_rfl!)
  intros
  kernel_rfl!
  apply xsr_cons
  (with_reducible apply x1_if; apply ts_bool; apply tss_and; apply ts_val; apply ev_var; exact lk_hd; kernel_rfl!)
  intros
  (with_reducible kernel_rfl!; exact ara_f; apply ar_f; exact xs_nil)
  refine xsr_hd (x1r_ret (evr_call ?_ ?_ ?_ hs (Nat.le_refl _) ?_))
  (with_reducible kernel_rfl!; kernel_rfl!; apply evs_cons; apply ev_var; apply lk_tl; kernel_rfl!; exact lk_hd; kernel_rfl!; apply evs_cons; apply ev_con; exact Fa.levels (by assumption); kernel_rfl!; kernel_rfl!; apply evs_cons; apply ev_con; exact Fa.terms (by assumption); kernel_rfl!; kernel_rfl!; exact evs_nil)
  intros
  kernel_rfl!
  intros
  kernel_rfl!
  intros
  kernel_rfl!
  intros
  kernel_rfl!
theorem r_subst (F : Fa W) (b : Nat) (t by0 : D) (h : CallR W W b (Str.ofString "substitute_all") [t, .dct (Str.ofString "n") by0]) :
    CallR W W (b + 1) (Str.ofString "substitute") [t, .str (Str.ofString "n"), by0] := by
  refine call_raise (k := 83) (ps := [Str.ofString "t", Str.ofString "name", Str.ofString "by"]) (b := b) rfl (by decide) rfl rfl (by kernel_rfl!) (fun _ _ _ => len3 fun _ _ _ => by kernel_rfl!) ?_
  conv => arg 6; whnf
  refine xsr_hd (x1r_ret (evr_call ?_ ?_ ?_ h (Nat.le_refl _) ?_))
  (with_reducible kernel_rfl!; kernel_rfl!; apply evs_cons; apply ev_var; apply lk_zip; exact lk_hd; kernel_rfl!; apply evs_cons; apply ev_dict1; apply ev_var; apply lk_zip; apply lk_tl; kernel_rfl!; apply lk_zip; exact lk_hd; kernel_rfl!; apply ev_var; apply lk_zip; apply lk_tl; kernel_rfl!; apply lk_zip; apply lk_tl; kernel_rfl!; apply lk_zip; exact lk_hd; kernel_rfl!; exact evs_nil)
  intros
  kernel_rfl!
  intros
  kernel_rfl!
  intros
  kernel_rfl!
theorem evr_lst {V : Wd} {b : Nat} {sc : Scope} {σ : Env} {x : Expr} {es : List Expr} {p : Pos} (h1 : EvR W V b sc σ x) (hs : ∀ env, starEach (x :: es) env = (false, eval x env) :: starEach es env) : EvR W V b sc σ (.List (x :: es) p) := .mk fun A env env0 X l s Q E e fo hf hf0 h =>
  wpAny_List (wpAny_items_cons (he := hs env) (h1.go A env env0 X l s _ _ e fo hf hf0 h))
theorem u_behind_ok (F : Fa W) (b : Nat) (hb : 1 ≤ b) (whole t d : D) (l : Int) (h : CallOK W b (Str.ofString "substitute") [whole, .str (Str.ofString "n"), Sm [Nm l, Nm 1]] d) : CallU W (b + 1) (Str.ofString "behind_last") [whole, t, .str (Str.ofString "n"), Nm l] d := by
  apply callU_of
  refine call_ok' (k := 86) (ps := [Str.ofString "whole", Str.ofString "t", Str.ofString "name", Str.ofString "high"]) (d' := d) rfl (by decide) rfl rfl (by kernel_rfl!) (fun _ _ _ => len4 fun _ _ _ _ => by kernel_rfl!) ?_ rfl
  conv => arg 5; whnf
  refine xs_seq (x1_try ?_) xk_ret
  (with_reducible apply x1_return; apply ev_call; kernel_rfl!; kernel_rfl!; apply evs_cons; apply ev_var; apply lk_zip; exact lk_hd; kernel_rfl!; apply evs_cons; apply ev_var; apply lk_zip; apply lk_tl; kernel_rfl!; apply lk_zip; apply lk_tl; kernel_rfl!; apply lk_zip; exact lk_hd; kernel_rfl!; apply evs_cons; apply ev_call; kernel_rfl!; kernel_rfl!; apply evs_cons; apply ev_lst; apply evs_cons; apply ev_var; apply lk_zip; apply lk_tl; kernel_rfl!; apply lk_zip; apply lk_tl; kernel_rfl!; apply lk_zip; apply lk_tl; kernel_rfl!; apply lk_zip; exact lk_hd; kernel_rfl!; apply evs_cons; apply ev_con; exact Fa.tone (by assumption); kernel_rfl!; kernel_rfl!; exact evs_nil)
  intros
  kernel_rfl!
  intros
  kernel_rfl!
  exact leT (by kernel_rfl!)
  with_reducible exact evs_nil
  intros
  (with_reducible kernel_rfl!; exact c_tsum2 (by assumption) _ _)
  omega; intros
  (with_reducible kernel_rfl!; exact evs_nil)
  intros
  kernel_rfl!
  intros
  kernel_rfl!
  intros
  (with_reducible kernel_rfl!; assumption)
  omega; intros
  kernel_rfl!
theorem u_behind_caught (F : Fa W) (F' : Fa (W.set false)) (hW : W.hn = true) (b : Nat) (hb : 1 ≤ b) (whole t u v : D) (l : Int) (h : CallR W W b (Str.ofString "substitute") [whole, .str (Str.ofString "n"), Sm [Nm l, Nm 1]])
    (h1 : CallOK (W.set false) b (Str.ofString "substitute") [whole, .str (Str.ofString "n"), Nm l] u) (h2 : CallOK (W.set false) b (Str.ofString "substitute") [t, .str (Str.ofString "n"), Nm l] v) : CallU W (b + 1) (Str.ofString "behind_last") [whole, t, .str (Str.ofString "n"), Nm l] (Sm [u, v]) := by
  refine call_up (k := 86) (b := b) (ps := [Str.ofString "whole", Str.ofString "t", Str.ofString "name", Str.ofString "high"]) rfl (by decide) rfl rfl (by kernel_rfl!) (fun _ _ _ => len4 fun _ _ _ _ => by kernel_rfl!) rfl ?_
  refine x1u_try hW ?_ (evr_call ?_ ?_ ?_ h (Nat.le_refl _) ?_) ?_
  (with_reducible kernel_rfl!; kernel_rfl!; kernel_rfl!; apply evs_cons; apply ev_var; apply lk_zip; exact lk_hd; kernel_rfl!; apply evs_cons; apply ev_var; apply lk_zip; apply lk_tl; kernel_rfl!; apply lk_zip; apply lk_tl; kernel_rfl!; apply lk_zip; exact lk_hd; kernel_rfl!; apply evs_cons; apply ev_call; kernel_rfl!; kernel_rfl!; apply evs_cons; apply ev_lst; apply evs_cons; apply ev_var; apply lk_zip; apply lk_tl; kernel_rfl!; apply lk_zip; apply lk_tl; kernel_rfl!; apply lk_zip; apply lk_tl; kernel_rfl!; apply lk_zip; exact lk_hd; kernel_rfl!; apply evs_cons; apply ev_con; exact Fa.tone (by assumption); kernel_rfl!; kernel_rfl!; exact evs_nil)
  intros
  kernel_rfl!
  intros
  kernel_rfl!
  exact leT (by kernel_rfl!)
  with_reducible exact evs_nil
  intros
  (with_reducible kernel_rfl!; exact c_tsum2 (by assumption) _ _)
  omega; intros
  (with_reducible kernel_rfl!; exact evs_nil)
  intros
  kernel_rfl!
  intros
  kernel_rfl!
  intros
  kernel_rfl!
  intros
  (with_reducible kernel_rfl!; apply x1_return; apply ev_call; kernel_rfl!; kernel_rfl!; apply evs_cons; apply ev_lst; apply evs_cons; apply ev_call; kernel_rfl!; kernel_rfl!; apply evs_cons; apply ev_var; apply lk_zip; exact lk_hd; kernel_rfl!; apply evs_cons; apply ev_var; apply lk_zip; apply lk_tl; kernel_rfl!; apply lk_zip; apply lk_tl; kernel_rfl!; apply lk_zip; exact lk_hd; kernel_rfl!; apply evs_cons; apply ev_var; apply lk_zip; apply lk_tl; kernel_rfl!; apply lk_zip; apply lk_tl; kernel_rfl!; apply lk_zip; apply lk_tl; kernel_rfl!; apply lk_zip; exact lk_hd; kernel_rfl!; exact evs_nil)
  intros
  kernel_rfl!
  intros
  kernel_rfl!
  intros
  (with_reducible kernel_rfl!; assumption)
  omega; intros
  (with_reducible kernel_rfl!; apply evs_cons; apply ev_call; kernel_rfl!; kernel_rfl!; apply evs_cons; apply ev_var; apply lk_zip; apply lk_tl; kernel_rfl!; apply lk_zip; exact lk_hd; kernel_rfl!; apply evs_cons; apply ev_var; apply lk_zip; apply lk_tl; kernel_rfl!; apply lk_zip; apply lk_tl; kernel_rfl!; apply lk_zip; exact lk_hd; kernel_rfl!; apply evs_cons; apply ev_var; apply lk_zip; apply lk_tl; kernel_rfl!; apply lk_zip; apply lk_tl; kernel_rfl!; apply lk_zip; apply lk_tl; kernel_rfl!; apply lk_zip; exact lk_hd; kernel_rfl!; exact evs_nil)
  intros
  kernel_rfl!
  intros
  kernel_rfl!
  intros
  (with_reducible kernel_rfl!; assumption)
  omega; intros
  (with_reducible kernel_rfl!; exact evs_nil)
  intros
  kernel_rfl!
  intros
  kernel_rfl!
  exact leT (by kernel_rfl!)
  with_reducible exact evs_nil
  intros
  (with_reducible kernel_rfl!; exact c_tsum2 (by assumption) _ _)
  omega; intros
  kernel_rfl!
theorem r_behind (F : Fa W) (F' : Fa (W.set false)) (hW : W.hn = true) (b : Nat) (hb : 1 ≤ b) (whole t : D) (l : Int) (h : CallR W W b (Str.ofString "substitute") [whole, .str (Str.ofString "n"), Sm [Nm l, Nm 1]])
    (h1 : CallR (W.set false) (W.set false) b (Str.ofString "substitute") [whole, .str (Str.ofString "n"), Nm l]) : CallR W (W.set false) (b + 1) (Str.ofString "behind_last") [whole, t, .str (Str.ofString "n"), Nm l] := by
  refine call_raise (k := 86) (b := b) (ps := [Str.ofString "whole", Str.ofString "t", Str.ofString "name", Str.ofString "high"]) rfl (by decide) rfl rfl (by kernel_rfl!) (fun _ _ _ => len4 fun _ _ _ _ => by kernel_rfl!) ?_
  conv => arg 6; whnf
  refine xsr_hd (x1r_try hW ?_ (evr_call ?_ ?_ ?_ h (Nat.le_refl _) ?_) (evr_arg ?_ ?_ ⟨21, by decide, rfl, rfl⟩ (evr_lst (evr_call ?_ ?_ ?_ h1 (Nat.le_refl _) ?_) ?_) ?_))
  (with_reducible kernel_rfl!; kernel_rfl!; kernel_rfl!; apply evs_cons; apply ev_var; apply lk_zip; exact lk_hd; kernel_rfl!; apply evs_cons; apply ev_var; apply lk_zip; apply lk_tl; kernel_rfl!; apply lk_zip; apply lk_tl; kernel_rfl!; apply lk_zip; exact lk_hd; kernel_rfl!; apply evs_cons; apply ev_call; kernel_rfl!; kernel_rfl!; apply evs_cons; apply ev_lst; apply evs_cons; apply ev_var; apply lk_zip; apply lk_tl; kernel_rfl!; apply lk_zip; apply lk_tl; kernel_rfl!; apply lk_zip; apply lk_tl; kernel_rfl!; apply lk_zip; exact lk_hd; kernel_rfl!; apply evs_cons; apply ev_con; exact Fa.tone (by assumption); kernel_rfl!; kernel_rfl!; exact evs_nil)
  intros
  kernel_rfl!
  intros
  kernel_rfl!
  exact leT (by kernel_rfl!)
  with_reducible exact evs_nil
  intros
  (with_reducible kernel_rfl!; exact c_tsum2 (by assumption) _ _)
  omega; intros
  (with_reducible kernel_rfl!; exact evs_nil)
  intros
  kernel_rfl!
  intros
  kernel_rfl!
  intros
  kernel_rfl!
  intros
  (with_reducible kernel_rfl!; kernel_rfl!; kernel_rfl!; kernel_rfl!; kernel_rfl!; apply evs_cons; apply ev_var; apply lk_zip; exact lk_hd; kernel_rfl!; apply evs_cons; apply ev_var; apply lk_zip; apply lk_tl; kernel_rfl!; apply lk_zip; apply lk_tl; kernel_rfl!; apply lk_zip; exact lk_hd; kernel_rfl!; apply evs_cons; apply ev_var; apply lk_zip; apply lk_tl; kernel_rfl!; apply lk_zip; apply lk_tl; kernel_rfl!; apply lk_zip; apply lk_tl; kernel_rfl!; apply lk_zip; exact lk_hd; kernel_rfl!; exact evs_nil)
  intros
  kernel_rfl!
  intros
  kernel_rfl!
  intros
  kernel_rfl!
  intros
  kernel_rfl!
  intros
  kernel_rfl!
  intros
  kernel_rfl!
abbrev Bs (c : Int) (S : D) : D := Sm [Nm c, Pr [Nm (-1), S]]
abbrev WF (m c k : Int) (S : D) : D := Pr [Nm m, Fc [Bs c S], Sm [S, Nm k]]
abbrev TF (m c : Int) (S : D) : D := Pr [Nm m, Fc [Bs c S], Bs c S]
abbrev L1 (l : Int) : D := Sm [Nm l, Nm 1]

theorem rep_base (F : Fa W) (c : Int) (y : D) : CallOK W 14 (Str.ofString "replaced") [Bs c Sy, .dct (Str.ofString "n") y] (Bs c y) :=
  c_rep_sum2 F 13 (by decide) _ _ _ _ y (c_rep_num F 12 (by decide) _ _) (c_rep_prod2 F 12 (by decide) _ _ _ _ y (c_rep_num F 11 (by decide) _ _) (c_rep_sym F 11 _))
theorem rep_whole (F : Fa W) (m c k : Int) (y : D) : CallOK W 16 (Str.ofString "replaced") [WF m c k Sy, .dct (Str.ofString "n") y] (WF m c k y) :=
  c_rep_prod3 F 15 (by decide) _ _ _ _ _ _ y (c_rep_num F 14 (by decide) _ _) (c_rep_call1 F 14 (by decide) _ _ y (rep_base F c y)) (c_rep_sum2 F 14 (by decide) _ _ _ _ y (c_rep_sym F 13 _) (c_rep_num F 13 (by decide) _ _))
theorem rep_t (F : Fa W) (m c : Int) (y : D) : CallOK W 16 (Str.ofString "replaced") [TF m c Sy, .dct (Str.ofString "n") y] (TF m c y) :=
  c_rep_prod3 F 15 (by decide) _ _ _ _ _ _ y (c_rep_num F 14 (by decide) _ _) (c_rep_call1 F 14 (by decide) _ _ y (rep_base F c y)) ((rep_base F c y).mono (by decide))
theorem rep_n (F : Fa W) (m : Int) (y : D) : CallOK W 16 (Str.ofString "replaced") [Pr [Nm m, Fc [Sy]], .dct (Str.ofString "n") y] (Pr [Nm m, Fc [y]]) :=
  c_rep_prod2 F 15 (by decide) _ _ _ _ y (c_rep_num F 14 (by decide) _ _) (c_rep_call1 F 14 (by decide) _ _ y (c_rep_sym F 13 _))
theorem set_l1 (F : Fa W) (l : Int) : CallOK W 10 (Str.ofString "settled") [L1 l, .int 120, .int 20000] (Nm (l + 1)) :=
  c_set_sum2 F 9 (by decide) _ _ l 1 (c_set_num F 8 (by decide) _) (c_set_num F 8 (by decide) _)
theorem set_base (F : Fa W) (c v : Int) (S : D) (hS : CallOK W 10 (Str.ofString "settled") [S, .int 120, .int 20000] (Nm v)) : CallOK W 12 (Str.ofString "settled") [Bs c S, .int 120, .int 20000] (Nm (c + (-1) * v)) :=
  c_set_sum2 F 11 (by decide) _ _ c _ (c_set_num F 10 (by decide) _) (c_set_prod2 F 10 (by decide) _ _ (-1) v (.of_left (intBits_le_64 (by decide) (by decide))) (c_set_num F 9 (by decide) _) hS)
theorem set_whole (F : Fa W) (m c k v : Int) (S : D) (hS : CallOK W 10 (Str.ofString "settled") [S, .int 120, .int 20000] (Nm v)) (m0 : -9 ≤ m) (m1 : m ≤ 9) (u0 : 0 ≤ c + (-1) * v) (u1 : c + (-1) * v ≤ 100) (w0 : -100 ≤ v + k) (w1 : v + k ≤ 100) :
    CallOK W 16 (Str.ofString "settled") [WF m c k S, .int 120, .int 20000] (Nm (m * fct (c + (-1) * v) * (v + k))) :=
  c_set_prod3 F 15 (by decide) _ _ _ m _ (v + k) (.of_left (intBits_le_64 (by omega) (by omega))) (.of_right (intBits_le_64 (by omega) (by omega))) (c_set_num F 14 (by decide) _) (c_set_call1 F 14 (by decide) _ _ u0 u1 ((set_base F c v S hS).mono (by decide))) (c_set_sum2 F 14 (by decide) _ _ v k (hS.mono (by decide)) (c_set_num F 13 (by decide) _))
theorem set_t (F : Fa W) (m c v : Int) (S : D) (hS : CallOK W 10 (Str.ofString "settled") [S, .int 120, .int 20000] (Nm v)) (m0 : -9 ≤ m) (m1 : m ≤ 9) (u0 : 0 ≤ c + (-1) * v) (u1 : c + (-1) * v ≤ 100) :
    CallOK W 16 (Str.ofString "settled") [TF m c S, .int 120, .int 20000] (Nm (m * fct (c + (-1) * v) * (c + (-1) * v))) :=
  c_set_prod3 F 15 (by decide) _ _ _ m _ _ (.of_left (intBits_le_64 (by omega) (by omega))) (.of_right (intBits_le_64 (by omega) (by omega))) (c_set_num F 14 (by decide) _) (c_set_call1 F 14 (by decide) _ _ u0 u1 ((set_base F c v S hS).mono (by decide))) ((set_base F c v S hS).mono (by decide))

/-- the plain form: a value one step behind -/
theorem behind_n (F : Fa W) (hn : W.hn = true) (m l : Int) (t : D) (m0 : -9 ≤ m) (m1 : m ≤ 9) (l0 : -1 ≤ l) (l1 : l ≤ 9) : CallU W 19 (Str.ofString "behind_last") [Pr [Nm m, Fc [Sy]], t, .str (Str.ofString "n"), Nm l] (Nm (m * fct (l + 1))) :=
  u_behind_ok F 18 (by decide) _ _ _ _ (c_subst F 17 _ _ _ (c_suball_sum F 16 (by decide) _ _ _ l (rep_n F m _) (c_greatN F hn m l m0 m1 (by omega) l1)
    (c_set_prod2 F 15 (by decide) _ _ m _ (.of_left (intBits_le_64 (by omega) (by omega))) (c_set_num F 14 (by decide) _) (c_set_call1 F 14 (by decide) _ (l + 1) (by omega) (by omega) ((set_l1 F l).mono (by decide))))))
/-- the falling form: a value one step behind -/
theorem behind_f (F : Fa W) (hn : W.hn = true) (m c l k : Int) (t : D) (m0 : -9 ≤ m) (m1 : m ≤ 9) (l0 : -9 ≤ l) (l1 : l ≤ 9) (c0 : -9 ≤ c) (c1 : c ≤ 9) (k0 : -9 ≤ k) (k1 : k ≤ 9) (u0 : 0 ≤ c + (-1) * (l + 1)) : CallU W 19 (Str.ofString "behind_last") [WF m c k Sy, t, .str (Str.ofString "n"), Nm l] (Nm (m * fct (c + (-1) * (l + 1)) * (l + 1 + k))) :=
  u_behind_ok F 18 (by decide) _ _ _ _ (c_subst F 17 _ _ _ (c_suball_sum F 16 (by decide) _ _ _ l (rep_whole F m c k _) (c_greatF F hn m c l k m0 m1 c0 c1 l0 l1 k0 k1) (set_whole F m c k (l + 1) _ (set_l1 F l) m0 m1 u0 (by omega) (by omega) (by omega))))
/-- the falling form: none there, a value at the last place -/
theorem behind_c (F : Fa W) (F' : Fa (W.set false)) (hn : W.hn = true) (m c l k : Int) (m0 : -9 ≤ m) (m1 : m ≤ 9) (l0 : -9 ≤ l) (l1 : l ≤ 9) (c0 : -9 ≤ c) (c1 : c ≤ 9) (k0 : -9 ≤ k) (k1 : k ≤ 9) (u0 : c + (-1) * (l + 1) < 0) (u1 : 0 ≤ c + (-1) * l) : CallU W 19 (Str.ofString "behind_last") [WF m c k Sy, TF m c Sy, .str (Str.ofString "n"), Nm l] (Sm [Nm (m * fct (c + (-1) * l) * (l + k)), Nm (m * fct (c + (-1) * l) * (c + (-1) * l))]) :=
  u_behind_caught F F' hn 18 (by decide) _ _ _ _ l
    (r_subst F 17 _ _ (r_suball_sum F 16 (by decide) _ _ l (rep_whole F m c k _) (c_greatF F hn m c l k m0 m1 c0 c1 l0 l1 k0 k1) (r_set_prod3 F 15 (by decide) _ _ _ (Nm m) (c_set_num F 14 (by decide) _) (r_set_call F (c + (-1) * (l + 1)) u0 (by omega) 14 (by decide) _ ((set_base F c (l + 1) _ (set_l1 F l)).mono (by decide))))))
    (c_subst F' 17 _ _ _ (c_suball_num F' 16 (by decide) _ _ _ l (rep_whole F' m c k _) (set_whole F' m c k l _ (c_set_num F' 9 (by decide) _) m0 m1 u1 (by omega) (by omega) (by omega))))
    (c_subst F' 17 _ _ _ (c_suball_num F' 16 (by decide) _ _ _ l (rep_t F' m c _) (set_t F' m c l _ (c_set_num F' 9 (by decide) _) m0 m1 u1 (by omega))))
/-- the plain form: none there, none at the last place -/
theorem behind_r (F : Fa W) (F' : Fa (W.set false)) (hn : W.hn = true) (m l : Int) (t : D) (m0 : -9 ≤ m) (m1 : m ≤ 9) (l0 : -9 ≤ l) (l1 : l < -1) : CallR W (W.set false) 19 (Str.ofString "behind_last") [Pr [Nm m, Fc [Sy]], t, .str (Str.ofString "n"), Nm l] :=
  r_behind F F' hn 18 (by decide) _ _ l
    (r_subst F 17 _ _ (r_suball_sum F 16 (by decide) _ _ l (rep_n F m _) (c_greatN F hn m l m0 m1 l0 (by omega)) (r_set_prod2 F 15 (by decide) _ _ (Nm m) (c_set_num F 14 (by decide) _) (r_set_call F (l + 1) (by omega) (by omega) 14 (by decide) _ ((set_l1 F l).mono (by decide))))))
    (r_subst F' 17 _ _ (r_suball_num F' 16 (by decide) _ _ l (rep_n F' m _) (r_set_prod2 F' 15 (by decide) _ _ (Nm m) (c_set_num F' 14 (by decide) _) (r_set_call F' l (by omega) (by omega) 14 (by decide) _ (c_set_num F' 13 (by decide) _)))))

/-- the lambda in the law -/
def lamP : Expr × Scope × Arguments × Pos := match ((bodyS (stm 91))[8]?.getD (.Pass ⟨0, 0, 0, 0⟩) : Stmt) with
  | .Assign _ (.Call _ [.Lambda a e sc p] _ _) _ => (e, sc, a, p)
  | _ => (.Name (Str.ofString "") ⟨0, 0, 0, 0⟩, ⟨.module, [], false, false, []⟩, ⟨[], [], none, [], [], none, []⟩, ⟨0, 0, 0, 0⟩)
theorem lam_u (F : Fa W) (w t : D) (l x : Int) (c : CallU W 19 (Str.ofString "behind_last") [w, t, .str (Str.ofString "n"), Nm l] (Nm x)) : EvU W 20 lamP.2.1 [(Str.ofString "last", .int l), (Str.ofString "t", t), (Str.ofString "whole", w)] lamP.1 (Nm x) := by
  conv => arg 5; whnf
  refine evu_arg ?_ ?_ (evu_call (ds := [w, t, .str (Str.ofString "n"), Nm l]) ?_ ?_ ?_ c (by decide) ?_) (c_simp_num F x) (by decide) ?_
  (with_reducible kernel_rfl!; kernel_rfl!; kernel_rfl!; kernel_rfl!; apply evs_cons; apply ev_var; apply lk_tl; kernel_rfl!; apply lk_tl; kernel_rfl!; exact lk_hd; kernel_rfl!; apply evs_cons; apply ev_var; apply lk_tl; kernel_rfl!; exact lk_hd; kernel_rfl!; apply evs_cons; exact ev_str; apply evs_cons; apply ev_call; kernel_rfl!; kernel_rfl!; apply evs_cons; apply ev_var; exact lk_hd; kernel_rfl!; apply evs_cons; exact ev_int; exact evs_nil)
  intros
  kernel_rfl!
  intros
  (with_reducible kernel_rfl!; exact c_tnum (by assumption) _)
  exact leT (by kernel_rfl!); intros
  (with_reducible kernel_rfl!; exact evs_nil)
  intros
  kernel_rfl!
  intros
  kernel_rfl!
  intros
  kernel_rfl!
  intros
  kernel_rfl!
  intros
  kernel_rfl!
  intros
  kernel_rfl!
theorem lam_s (F : Fa W) (w t : D) (l x y : Int) (c : CallU W 19 (Str.ofString "behind_last") [w, t, .str (Str.ofString "n"), Nm l] (Sm [Nm x, Nm y])) : EvU W 20 lamP.2.1 [(Str.ofString "last", .int l), (Str.ofString "t", t), (Str.ofString "whole", w)] lamP.1 (Nm (x + y)) := by
  conv => arg 5; whnf
  refine evu_arg ?_ ?_ (evu_call (ds := [w, t, .str (Str.ofString "n"), Nm l]) ?_ ?_ ?_ c (by decide) ?_) (c_simp_sum F x y) (by decide) ?_
  (with_reducible kernel_rfl!; kernel_rfl!; kernel_rfl!; kernel_rfl!; apply evs_cons; apply ev_var; apply lk_tl; kernel_rfl!; apply lk_tl; kernel_rfl!; exact lk_hd; kernel_rfl!; apply evs_cons; apply ev_var; apply lk_tl; kernel_rfl!; exact lk_hd; kernel_rfl!; apply evs_cons; exact ev_str; apply evs_cons; apply ev_call; kernel_rfl!; kernel_rfl!; apply evs_cons; apply ev_var; exact lk_hd; kernel_rfl!; apply evs_cons; exact ev_int; exact evs_nil)
  intros
  kernel_rfl!
  intros
  (with_reducible kernel_rfl!; exact c_tnum (by assumption) _)
  exact leT (by kernel_rfl!); intros
  (with_reducible kernel_rfl!; exact evs_nil)
  intros
  kernel_rfl!
  intros
  kernel_rfl!
  intros
  kernel_rfl!
  intros
  kernel_rfl!
  intros
  kernel_rfl!
  intros
  kernel_rfl!
theorem lam_r (F : Fa W) {V : Wd} (w t : D) (l : Int) (c : CallR W V 19 (Str.ofString "behind_last") [w, t, .str (Str.ofString "n"), Nm l]) : EvR W V 20 lamP.2.1 [(Str.ofString "last", .int l), (Str.ofString "t", t), (Str.ofString "whole", w)] lamP.1 := by
  conv => arg 6; whnf
  refine evr_arg ?_ ?_ ⟨71, by decide, rfl, rfl⟩ (evr_call (ds := [w, t, .str (Str.ofString "n"), Nm l]) ?_ ?_ ?_ c (by decide) ?_) ?_
  (with_reducible kernel_rfl!; kernel_rfl!; kernel_rfl!; kernel_rfl!; apply evs_cons; apply ev_var; apply lk_tl; kernel_rfl!; apply lk_tl; kernel_rfl!; exact lk_hd; kernel_rfl!; apply evs_cons; apply ev_var; apply lk_tl; kernel_rfl!; exact lk_hd; kernel_rfl!; apply evs_cons; exact ev_str; apply evs_cons; apply ev_call; kernel_rfl!; kernel_rfl!; apply evs_cons; apply ev_var; exact lk_hd; kernel_rfl!; apply evs_cons; exact ev_int; exact evs_nil)
  intros
  kernel_rfl!
  intros
  (with_reducible kernel_rfl!; exact c_tnum (by assumption) _)
  exact leT (by kernel_rfl!); intros
  (with_reducible kernel_rfl!; exact evs_nil)
  intros
  kernel_rfl!
  intros
  kernel_rfl!
  intros
  kernel_rfl!
  intros
  kernel_rfl!
  intros
  kernel_rfl!
  intros
  kernel_rfl!
/-- an item of a plain list is put: the heap behind it, exactly -/
theorem put_item {A : Around} {s : Shared} {E : Value → Shared → Prop} {l : Addr} {items : Array Value} {n : Nat} {k : Int} {t : Tok} {v : Value} {Q : Unit → Shared → Prop} (hl : s.heap.get? l = some { cls := .type "list", data := .seq items n }) (h0 : 0 ≤ k) (hk : k < items.size) (hfit : k < 2 ^ 63)
    (hQ : ∀ h' n', Chg [l] s.heap h' → h'.get? l = some { cls := .type "list", data := .seq (items.setIfInBounds k.toNat v) n' } → Q () { s with heap := h' }) :
    wpAny (model W.prog W.w) A (setItem (.ref l) (.int k t) v) Q E s :=
  ki_setAt hl h0 hfit hk (hQ _ (if ((items.setIfInBounds k.toNat v).size == items.size) = true then n else n + 1)
    (fun _ _ hb e => (Heap.get?_update_other _ _ fun q => hb (by simp [q])).trans e)
    (Heap.get?_update_self (Obj.mapSeq (·.setIfInBounds k.toNat v)) hl rfl))

theorem EnvOK.shrink {b : Nat} {sc : Scope} {σ : Env} {A : Around} {env : PySem.Env} {X Y : List Addr} {h : Heap} (e : EnvOK W b sc A env σ X h) (k : ∀ y ∈ Y, y ∈ X) (i : env.locals ∈ Y) : EnvOK W b sc A env σ Y h := by
  have g : Keep (G X h) (G Y h) := g_less k
  obtain ⟨m, n, l⟩ := e.loc
  exact ⟨e.scope, e.kind, e.glob, e.bui, e.room, i, fun y hy => e.has y (k y hy), e.top.keep g, e.hok.keep g, m, n, fun x d q => (l x d q).keep g⟩

theorem rvs_ints {g : Heap} {vs : List Value} : ∀ {zs : List Int}, RVs W g vs (zs.map .int) → vs.length = zs.length := fun r => by simpa using r.length

/-- what _law_take gives -/
def takeV (zs : List Int) (k : Nat) (m : Int) : Int := match zs[k]? with
  | some z => (if z < 0 then -z else z).fmod m
  | none => (5 * ((k : Int) + 1) + ((k : Int) + 1).fdiv 3).fmod m
theorem takeV_range (zs : List Int) (k : Nat) (m : Int) (hm : m = 2 ∨ m = 3 ∨ m = 8) : 0 ≤ takeV zs k m ∧ takeV zs k m < m := by
  have q : ∀ x : Int, 0 ≤ x.fmod m ∧ x.fmod m < m := fun x => by
    have h1 : m > 0 := by rcases hm with rfl | rfl | rfl <;> decide
    exact ⟨Int.fmod_nonneg_of_pos _ h1, Int.fmod_lt_of_pos _ h1⟩
  unfold takeV
  cases zs[k]? with
  | some z => exact q _
  | none => exact q _
theorem take_bind (pm cd doc : Value) : ∀ (vs : List Value), vs.length = 2 → bindArgs (docDef (nameS (stm 88)) (argsS (stm 88)) (bodyS (stm 88)) (scopeS (stm 88)) pm cd doc) ⟨vs, []⟩ = pure ([Str.ofString "box", Str.ofString "many"].zip vs) := len2 fun _ _ => by kernel_rfl!

theorem mod_ne {m : Int} (hm : m = 2 ∨ m = 3 ∨ m = 8) : m ≠ 0 := by rcases hm with rfl | rfl | rfl <;> decide

theorem take_rest (F : Fa W) {b : Nat} (zs : List Int) (hz : zs.length ≤ 64) (k : Nat) (hk : k = 0 ∨ k = 1 ∨ k = 2 ∨ k = 3) (m : Int) (hm : m = 2 ∨ m = 3 ∨ m = 8) (B : Addr) (st : Stmt) (rest : List Stmt) (hb : bodyS (stm 88) = st :: rest) :
    Xs W b (scopeS (stm 88)) ((Str.ofString "box", .lst [.lst (zs.map .int), .int ((k : Int) + 1)]) :: [Str.ofString "box", Str.ofString "many"].zip [.adr B, .int m]) rest (.ret (.int (takeV zs k m))) := by
  have hb' : bodyS (stm 88) = st :: rest := hb
  conv at hb => lhs; whnf
  cases hb
  generalize hσ : ((Str.ofString "box", D.lst [.lst (zs.map .int), .int ((k : Int) + 1)]) :: [Str.ofString "box", Str.ofString "many"].zip [.adr B, .int m]) = σ
  have lb : σ.lookup (Str.ofString "box") = some (.lst [.lst (zs.map .int), .int ((k : Int) + 1)]) := by rw [← hσ]; rfl
  have lm : σ.lookup (Str.ofString "many") = some (.int m) := by rw [← hσ]; kernel_rfl!
  have box0 : ∀ {p i p' p''}, Ev W b (scopeS (stm 88)) σ (.Subscript (.Name (Str.ofString "box") p) (.Constant (.int 0) i p') p'') (.lst (zs.map .int)) := fun {p i p' p''} => ev_at (ev_var lb (by kernel_rfl!)) ev_int (.lst .n0) (fun _ _ => rfl)
  have box1 : ∀ {p i p' p''}, Ev W b (scopeS (stm 88)) σ (.Subscript (.Name (Str.ofString "box") p) (.Constant (.int 1) i p') p'') (.int ((k : Int) + 1)) := fun {p i p' p''} => ev_at (ev_var lb (by kernel_rfl!)) ev_int (.lst .n1) (fun _ _ => rfl)
  have many : ∀ {p}, Ev W b (scopeS (stm 88)) σ (.Name (Str.ofString "many") p) (.int m) := fun {p} => ev_var lm (by kernel_rfl!)
  have idx : ∀ {p i p' p'' j q q'}, Ev W b (scopeS (stm 88)) σ (.BinOp (.Subscript (.Name (Str.ofString "box") p) (.Constant (.int 1) i p') p'') .Sub (.Constant (.int 1) j q) q') (.int (k : Int)) := fun {p i p' p'' j q q'} => by
    have := ev_bin (W := W) (b := b) (p := q') (op := .Sub) (box1 (p := p) (i := i) (p' := p') (p'' := p'')) (ev_int (i := 1) (k := j) (p := q)) op_sub
    rwa [show ((k : Int) + 1 - 1) = (k : Int) by omega] at this
  unfold takeV
  cases hzk : zs[k]? with
  | some z =>
    have hlt : k < zs.length := (List.getElem?_eq_some_iff.mp hzk).1
    refine xs_seq (o1 := .ret (.int ((if z < 0 then -z else z).fmod m))) (x1_if (c := true) (ts_cmp box1 (ev_call_bi (bi_len F) (by kernel_rfl!) (by kernel_rfl!) (evs_cons box0 evs_nil fun _ => rfl) (cv_len_lst (by simp; omega)) (fun _ => rfl) (fun _ => rfl)) (op_leI ?_) ?_) (ar_t ?_)) xk_ret
    · exact decT (by simp; omega)
    · rfl
    · refine xs_seq (x1_return (ev_bin (ev_call_bi (bi_abs F) (by kernel_rfl!) (by kernel_rfl!) (evs_cons (ev_item_lst (n := k) box0 idx (d := .int z) (by rw [List.getElem?_map, hzk]; rfl) (by omega) (fun _ _ => rfl)) evs_nil fun _ => rfl) cv_abs (fun _ => rfl) (fun _ => rfl)) many (op_fmod (mod_ne hm)))) xk_ret
  | none =>
    have hge : zs.length ≤ k := List.getElem?_eq_none_iff.mp hzk
    refine xs_seq (o1 := .nxt σ) (x1_if (c := false) (ts_cmp box1 (ev_call_bi (bi_len F) (by kernel_rfl!) (by kernel_rfl!) (evs_cons box0 evs_nil fun _ => rfl) (cv_len_lst (by simp; omega)) (fun _ => rfl) (fun _ => rfl)) (op_leI ?_) ?_) (ar_f xs_nil)) (xk_nxt ?_)
    · exact decF (by simp; omega)
    · rfl
    · refine xs_seq (x1_return (ev_bin (ev_bin (ev_bin ev_int box1 (op_mul (.of_left (by decide)))) (ev_bin box1 ev_int (op_fdiv (by decide) ?_)) op_add) many (op_fmod (mod_ne hm)))) xk_ret
      rcases hk with rfl | rfl | rfl | rfl <;> kernel_rfl!

theorem take_call (F : Fa W) {b : Nat} (zs : List Int) (hz : zs.length ≤ 64) (k : Nat) (hk : k = 0 ∨ k = 1 ∨ k = 2 ∨ k = 3) (m : Int) (hm : m = 2 ∨ m = 3 ∨ m = 8) {A : Around} {X : List Addr} {s : Shared} {a B S : Addr} {tb tm : Tok} {svs : List Value} {n : Nat} {Q E : Value → Shared → Prop}
    (ha : W.mg (Str.ofString "_law_take") = some (.ref a)) (cx : Cx W (b + 1) A X s.heap) (BX : B ∈ X) (hB : s.heap.get? B = some { cls := .type "list", data := .seq #[.ref S, .int (k : Int) tb] n }) (hS : LstX (G X s.heap) S svs) (rS : RVs W (G X s.heap) svs (zs.map .int))
    (h : ∀ h' tk' t1 t2 n', Chg [B] s.heap h' → h'.get? B = some { cls := .type "list", data := .seq #[.ref S, .int ((k : Int) + 1) t1] n' } → Q (.int (takeV zs k m) t2) { s with heap := h', toks := tk' }) :
    wpAny (model W.prog W.w) A (call (.ref a) [.ref B, .int m tm]) Q E s := by
  refine call_enter (k := 88) (b := b) (ps := [Str.ofString "box", Str.ofString "many"]) (ds := [.adr B, .int m]) (by decide) rfl rfl (okFn_is (by kernel_rfl!)) take_bind ha cx (.cons (.adr B) (.cons (.int m tm) .nil)) fun env h₁ tk e fr nL k1 => ?_
  generalize (fun (e : Value) (s' : Shared) => wpAny (model W.prog W.w) (A.deeper env) (leaving env e) (fun _ s'' => E e s'') (fun e' s'' => E e' s'') s') = E1
  have BL : B ≠ env.locals := fun q => by rw [q, nL] at hB; cases hB
  have gg : Keep (G X s.heap) (G (env.locals :: X) h₁) := g_more k1.chg nL
  generalize hσ0 : [Str.ofString "box", Str.ofString "many"].zip [D.adr B, .int m] = σ0 at e
  have lb : σ0.lookup (Str.ofString "box") = some (.adr B) := by rw [← hσ0]; rfl
  -- looking into the box
  have peek : ∀ {h : Heap} (j : Int) (t : Tok) (n : Nat), EnvOK W b (scopeS (stm 88)) (A.deeper env) env σ0 (env.locals :: X) h → h.get? B = some { cls := .type "list", data := .seq #[.ref S, .int j t] n } → Keep (G X s.heap) (G (env.locals :: X) h) →
      EnvOK W b (scopeS (stm 88)) (A.deeper env) env ((Str.ofString "box", .lst [.lst (zs.map .int), .int j]) :: σ0) (env.locals :: X.filter (· != B)) h := fun {h} j t n e hB' g => by
    have sub : ∀ y ∈ env.locals :: X.filter (· != B), y ∈ env.locals :: X := fun y hy => by
      rcases List.mem_cons.mp hy with rfl | hy
      · exact .head _
      · exact .tail _ (List.mem_filter.mp hy).1
    have g2 : Keep (G X s.heap) (G (env.locals :: X.filter (· != B)) h) := g.trans (g_less sub)
    have nB : B ∉ env.locals :: X.filter (· != B) := fun q => by
      rcases List.mem_cons.mp q with q | q
      · exact BL q
      · simpa using (List.mem_filter.mp q).2
    refine (e.shrink sub (.head _)).swap fun y d q => ?_
    rw [List.lookup_cons] at q
    cases hb : y == Str.ofString "box" with
    | true =>
      rw [hb] at q; cases q
      rw [beq_iff_eq.mp hb]
      exact .inr ⟨B, lb, .lst (vs := [.ref S, .int j t]) ⟨n, g_get hB' nB⟩ (.cons (.lst (hS.keep g2) (rS.keep g2)) (.cons (.int j t) .nil))⟩
    | false => rw [hb] at q; exact .inl q
  obtain ⟨st, rest, hbody⟩ : ∃ st rest, bodyS (stm 88) = st :: rest := ⟨_, _, rfl⟩
  have rest_ok := take_rest F (b := b) zs hz k hk m hm B st rest hbody
  rw [hσ0] at rest_ok
  rw [hbody]
  conv at hbody => lhs; whnf
  cases hbody
  have p1 := peek (k : Int) tb n e (k1 _ _ hB) gg
  have lb1 : ((Str.ofString "box", D.lst [.lst (zs.map .int), .int (k : Int)]) :: σ0).lookup (Str.ofString "box") = some (.lst [.lst (zs.map .int), .int (k : Int)]) := rfl
  refine wpAny_execs_cons (wpAny_Assign_Subscript (hs := rfl) ((ev_bin (W := W) (b := b) (sc := scopeS (stm 88)) (op := .Add) (ev_at (ev_var lb1 (by kernel_rfl!)) ev_int (.lst .n1) (fun _ _ => rfl)) ev_int op_add).go _ env _ _ _ _ p1 fun v h₂ t₂ k₂ r₂ => ?_))
  cases r₂
  rename_i t3
  refine (ev_var (W := W) (b := b) (sc := scopeS (stm 88)) lb (by kernel_rfl!)).go _ env _ _ _ _ (e.keep k₂) fun v h₃ t₄ k₃ r₃ => ?_
  cases r₃
  refine (ev_int (W := W) (b := b) (sc := scopeS (stm 88)) (σ := σ0)).go _ env _ _ _ _ ((e.keep k₂).keep k₃) fun v h₄ t₅ k₄ r₄ => ?_
  cases r₄
  have k14 : Keep h₁ h₄ := (k₂.trans k₃).trans k₄
  refine put_item (k14 _ _ (k1 _ _ hB)) (by decide) (by show (1 : Int) < 2; decide) (by decide) fun h₅ n5 c5 hB5 => ?_
  have hB5' : h₅.get? B = some { cls := .type "list", data := .seq #[.ref S, .int ((k : Int) + 1) t3] n5 } := hB5
  have e5 : EnvOK W b (scopeS (stm 88)) (A.deeper env) env σ0 (env.locals :: X) h₅ := (e.keep k14).turn c5 (.tail _ BX) BL ⟨_, hB5⟩
  have g5 : Keep (G X s.heap) (G (env.locals :: X) h₅) := gg.trans ((g_keep k14).trans (g_chg (c5.mono fun y q => by simp at q; subst q; exact .tail _ BX)))
  refine rest_ok.go _ env _ _ _ _ (peek ((k : Int) + 1) t3 n5 e5 hB5' g5) fun f h₆ t₆ c₆ o₆ => ?_
  obtain ⟨v, rfl, r⟩ := o₆
  cases r
  refine h h₆ _ t3 _ n5 (fun b o hb eb => ?_) (c₆ _ _ (by simpa using BL) hB5')
  have nl : b ≠ env.locals := fun q => by rw [q, nL] at eb; cases eb
  exact c₆ b o (by simpa using nl) (c5 b o hb (k14 _ _ (k1 _ _ eb)))
/-- the box at its k-th number -/
structure BoxAt (W : Wd) (B S : Addr) (zs : List Int) (k : Nat) (X : List Addr) (h : Heap) : Prop where
  mem : B ∈ X
  obj : ∃ n tb, h.get? B = some { cls := .type "list", data := .seq #[.ref S, .int (k : Int) tb] n }
  lst : ∃ svs, LstX (G X h) S svs ∧ RVs W (G X h) svs (zs.map .int)
theorem BoxAt.keep {B S : Addr} {zs : List Int} {k : Nat} {X : List Addr} {h h' : Heap} (x : BoxAt W B S zs k X h) (q : Keep h h') : BoxAt W B S zs k X h' := by
  obtain ⟨m, ⟨n, tb, o⟩, svs, a, r⟩ := x
  exact ⟨m, ⟨n, tb, q _ _ o⟩, svs, a.keep (g_keep q), r.keep (g_keep q)⟩
theorem BoxAt.next {B S : Addr} {zs : List Int} {k : Nat} {X : List Addr} {h h' : Heap} (x : BoxAt W B S zs k X h) (c : Chg [B] h h') {t : Tok} {n : Nat} (o : h'.get? B = some { cls := .type "list", data := .seq #[.ref S, .int ((k : Int) + 1) t] n }) : BoxAt W B S zs (k + 1) X h' := by
  obtain ⟨m, _, svs, a, r⟩ := x
  have g : Keep (G X h) (G X h') := g_chg (c.mono fun y q => by simp at q; subst q; exact m)
  exact ⟨m, ⟨n, t, by rw [o]; rfl⟩, svs, a.keep g, r.keep g⟩

section
variable {b : Nat} {sc : Scope} {σ : Env} {B S : Addr} {zs : List Int}
/-- an expression that takes numbers from the box -/
structure EvB (W : Wd) (b : Nat) (sc : Scope) (σ : Env) (B S : Addr) (zs : List Int) (k k' : Nat) (e : Expr) (d : D) : Prop where
  go : ∀ (A : Around) (env : PySem.Env) (X : List Addr) (s : Shared) (Q E : Value → Shared → Prop), EnvOK W b sc A env σ X s.heap → B ≠ env.locals → BoxAt W B S zs k X s.heap →
    (∀ v h' tk', Chg [B] s.heap h' → BoxAt W B S zs k' X h' → RV W (G X h') v d → Q v { s with heap := h', toks := tk' }) → wpAny (model W.prog W.w) A (eval e env) Q E s
theorem BoxAt.env {A : Around} {env : PySem.Env} {X : List Addr} {h h' : Heap} {k k' : Nat} (e : EnvOK W b sc A env σ X h) (n : B ≠ env.locals) (x : BoxAt W B S zs k X h) (c : Chg [B] h h') (x' : BoxAt W B S zs k' X h') : EnvOK W b sc A env σ X h' :=
  e.turn c x.mem n (let ⟨_, _, o⟩ := x'.obj; ⟨_, o⟩)
theorem BoxAt.g {X : List Addr} {h h' : Heap} {k : Nat} (x : BoxAt W B S zs k X h) (c : Chg [B] h h') : Keep (G X h) (G X h') := g_chg (c.mono fun y q => by simp at q; subst q; exact x.mem)

theorem eb_of {k : Nat} {e : Expr} {d : D} (h1 : Ev W b sc σ e d) : EvB W b sc σ B S zs k k e d := .mk fun A env X s Q E e n x h =>
  h1.go A env X s _ _ e fun v h' tk' q r => h v h' tk' q.chg (x.keep q) r
theorem eb_bin {k k1 k2 : Nat} {l r : Expr} {op : Operator} {p : Pos} {x y d : D} (h1 : EvB W b sc σ B S zs k k1 l x) (h2 : EvB W b sc σ B S zs k1 k2 r y) (o : Op2 W b (binaryOp op) x y d) : EvB W b sc σ B S zs k k2 (.BinOp l op r p) d := .mk fun A env X s Q E e n bx h =>
  wpAny_BinOp (h1.go A env X s _ _ e n bx fun u h₁ t₁ c₁ x₁ r₁ => h2.go A env X _ _ _ (bx.env e n c₁ x₁) n x₁ fun v h₂ t₂ c₂ x₂ r₂ =>
    o.go A X _ u v _ _ (x₁.env (bx.env e n c₁ x₁) n c₂ x₂).cx (r₁.keep (x₁.g c₂)) r₂ fun w h₃ t₃ k₃ r₃ => h w h₃ t₃ ((c₁.trans c₂).trans k₃.chg) (x₂.keep k₃) r₃)
theorem eb_cmp {k k1 k2 : Nat} {l r : Expr} {op : CmpOp} {p : Pos} {x y d : D} (h1 : EvB W b sc σ B S zs k k1 l x) (h2 : EvB W b sc σ B S zs k1 k2 r y) (o : Op2 W b (compareOp op) x y d) (hm : behindInMarks op r = false) : EvB W b sc σ B S zs k k2 (.Compare l [op] [r] p) d := .mk fun A env X s Q E e n bx h =>
  wpAny_Compare1 (hm := hm) (h1.go A env X s _ _ e n bx fun u h₁ t₁ c₁ x₁ r₁ => h2.go A env X _ _ _ (bx.env e n c₁ x₁) n x₁ fun v h₂ t₂ c₂ x₂ r₂ =>
    o.go A X _ u v _ _ (x₁.env (bx.env e n c₁ x₁) n c₂ x₂).cx (r₁.keep (x₁.g c₂)) r₂ fun w h₃ t₃ k₃ r₃ => h w h₃ t₃ ((c₁.trans c₂).trans k₃.chg) (x₂.keep k₃) r₃)
theorem eb_tup2 {k k1 k2 : Nat} {l r : Expr} {j : Nat} {p : Pos} {x y : D} (h1 : EvB W b sc σ B S zs k k1 l x) (h2 : EvB W b sc σ B S zs k1 k2 r y) (hs : ∀ env, starEach [l, r] env = (false, eval l env) :: starEach [r] env) (hs2 : ∀ env, starEach [r] env = (false, eval r env) :: starEach [] env) :
    EvB W b sc σ B S zs k k2 (.Tuple [l, r] j p) (.tup [x, y]) := .mk fun A env X s Q E e n bx h =>
  wpAny_Tuple (wpAny_items_cons (he := hs env) (h1.go A env X s _ _ e n bx fun u h₁ t₁ c₁ x₁ r₁ => wpAny_items_cons (he := hs2 env) (h2.go A env X _ _ _ (bx.env e n c₁ x₁) n x₁ fun v h₂ t₂ c₂ x₂ r₂ =>
    wpAny_items_nil ⟨by show 2 ≤ sizeLine; rw [sizeLine_is]; omega, h _ _ _ ((c₁.trans c₂).trans (Keep.chg fun _ _ e => Heap.get?_push_of_some _ e)) (x₂.keep fun _ _ e => Heap.get?_push_of_some _ e)
      (rv_newTup (.cons (r₁.keep (x₁.g c₂)) (.cons r₂ .nil)) ((x₁.env (bx.env e n c₁ x₁) n c₂ x₂).fresh (none_of_size _)))⟩)))
/-- a list of written-out data, at a number from the box -/
theorem eb_item {k k' : Nat} {v i : Expr} {p : Pos} {ds : List D} {j : Nat} {d : D} (h1 : Ev W b sc σ v (.lst ds)) (h2 : EvB W b sc σ B S zs k k' i (.int (j : Int))) (hx : ds[j]? = some d) (hn : j < 1000) (hs : ∀ o k, subscripted i false o k = operate [o, k] (getItem o k)) :
    EvB W b sc σ B S zs k k' (.Subscript v i p) d := .mk fun A env X s Q E e n bx h =>
  Subscript_ (h1.go A env X s _ _ e fun u h₁ t₁ k₁ r₁ => h2.go A env X _ _ _ (e.keep k₁) n (bx.keep k₁) fun q h₂ t₂ c₂ x₂ r₂ => by
    have r1 := r₁.keep ((bx.keep k₁).g c₂)
    cases r1 with
    | lst ht rs =>
      cases r₂
      obtain ⟨z, hz, rz⟩ := rs.get hx
      have ht' := (ht.keep g_sub).is
      exact tail_any ht'.typeIs slot_list_getitem.lookup (wpAny_getItem_list ht' (by omega) (by omega) (by simpa using hz) (h z h₂ t₂ (k₁.chg.trans c₂) x₂ rz)) (hs _ _))
theorem eb_take (F : Fa W) (hz : zs.length ≤ 64) {k : Nat} (hk : k = 0 ∨ k = 1 ∨ k = 2 ∨ k = 3) {m : Int} (hm : m = 2 ∨ m = 3 ∨ m = 8) {p pos px pc : Pos} {j : Nat} (hlk : sc.names.lookup (Str.ofString "_law_take") = some .globalImplicit) (lb : σ.lookup (Str.ofString "box") = some (.adr B)) :
    EvB W (b + 1) sc σ B S zs k (k + 1) (.Call (.Name (Str.ofString "_law_take") p) [.Name (Str.ofString "box") px, .Constant (.int m) j pc] [] pos) (.int (takeV zs k m)) := .mk fun A env X s Q E e n bx h => by
  obtain ⟨f, cc, o, pm, doc, f1, f2, f3, f4⟩ := e.top.fn 88 (by decide) rfl
  have f1 : W.mg (Str.ofString "_law_take") = some (.ref f) := f1
  refine Call_ (Name_function_global (by rw [e.scope]; exact e.kind) (by show env.scope.names.lookup _ = _; rw [e.scope]; exact hlk) (loadGlobal_global (mg := W.mg) (by rw [e.glob]; exact e.top.gl.keeps g_sub) f1 ?_) (by decide))
  refine callWith_def f3 (he := rfl) ((evs_cons (d := .adr B) (ds := [.int m]) (ev_var (σ := σ) lb (by kernel_rfl!)) (evs_cons ev_int evs_nil fun _ => rfl) fun _ => rfl).go A env X s pos _ _ e fun vs h₁ t₁ k₁ r₁ => ⟨k₁ _ _ (g_sub _ _ f2), ?_⟩)
  cases r₁ with
  | cons q1 q2 =>
  cases q2 with
  | cons q2 q3 =>
  cases q3; cases q1; cases q2
  have bx1 := bx.keep k₁
  obtain ⟨⟨n5, tb, hB⟩, svs, hS, rS⟩ := (⟨bx1.obj, bx1.lst⟩ : _ ∧ _)
  refine take_call F zs hz k hk m hm f1 (e.keep k₁).cx bx1.mem hB hS rS fun h₂ t₂ t3 t4 n6 c₂ o₂ => ?_
  exact h _ h₂ t₂ (k₁.chg.trans c₂) (bx1.next c₂ o₂) (.int _ _)

/-- a name that an inner function captures is stored -/
theorem cell_store {A : Around} {env : PySem.Env} {X Y : List Addr} {s : Shared} {x : Str} {c : Addr} {v : Value} {v₀ : Option Value} {d : D} {Q : Unit → Shared → Prop} {E : Value → Shared → Prop} (e : EnvOK W b sc A env σ X s.heap) (r : RV W (G X s.heap) v d) (hl : sc.names.lookup x = some .cell)
    (hc : env.cells.lookup x = some c) (hv : s.heap.IsCell c v₀) (cX : c ∈ X) (cL : c ≠ env.locals) (hY : ∀ y ∈ Y, y ∈ X) (cY : c ∉ Y) (iY : env.locals ∈ Y)
    (h : ∀ h', Chg [c] s.heap h' → EnvOK W b sc A env ((x, d) :: σ) Y h' → Q () { s with heap := h' }) : wpAny (model W.prog W.w) A (storeName env x v) Q E s := by
  have hk : env.kindOf x = some .cell := by show env.scope.names.lookup x = _; rw [e.scope]; exact hl
  refine wpAny_storeName_cell (by rw [e.scope]; exact e.kind) hk hc hv fun h' hv' hs => ?_
  have ch : Chg [c] s.heap h' := fun b o hb eb => hs.extBut b o (by simpa using hb) eb
  have e' := e.turn ch cX cL (let ⟨o, ho, _⟩ := hv'; ⟨o, ho⟩)
  have g : Keep (G X s.heap) (G Y h') := (g_chg (ch.mono fun y q => by simp at q; subst q; exact cX)).trans (g_less hY)
  have e2 := e'.shrink hY iY
  refine h h' ch ?_
  obtain ⟨m, n, l⟩ := e2.loc
  refine ⟨e2.scope, e2.kind, e2.glob, e2.bui, e2.room, iY, e2.has, e2.top, e2.hok, m, n, fun y d' q => ?_⟩
  rw [List.lookup_cons] at q
  cases hb : y == x with
  | true =>
    rw [hb] at q; cases q
    rw [beq_iff_eq.mp hb]
    obtain ⟨o, ho, hd⟩ := hv'
    exact ⟨v, r.keep g, .inr ⟨.inl hk, c, hc, o, g_get ho cY, hd⟩⟩
  | false => rw [hb] at q; exact l y d' q

theorem ev_neg {i : Int} {k : Nat} {p p' : Pos} : Ev W b sc σ (.UnaryOp .USub (.Constant (.int i) k p) p') (.int (-i)) := .mk fun A env X s Q E e h =>
  wpAny_UnaryOp (ev_int.go A env X s _ _ e fun u h₁ t₁ k₁ r₁ => by cases r₁; exact PyProof.Rows.neg_int (h _ _ _ k₁ (.int _ _)))
end
def lawSt (k : Nat) : Stmt := (bodyS (stm 91))[k]?.getD (.Pass ⟨0, 0, 0, 0⟩)
abbrev s2 (l a m : Int) (f : Bool) (B Sc : Addr) : Env := [(Str.ofString "apart", .int a), (Str.ofString "last", .int l), (Str.ofString "is_falling", .bool f), (Str.ofString "many", .int m), (Str.ofString "box", .adr B), (Str.ofString "script", .adr Sc)]
abbrev s3 (l a m : Int) (f : Bool) (B Sc : Addr) : Env := (Str.ofString "n", Sy) :: (Str.ofString "c", .int (l + a)) :: s2 l a m f B Sc
abbrev s5 (l a m : Int) (f : Bool) (B Sc : Addr) (base : D) : Env := (Str.ofString "ahead", .lst [Nm m, Fc [base]]) :: (Str.ofString "base", base) :: s3 l a m f B Sc
abbrev s7 (l a m : Int) (f : Bool) (B Sc : Addr) (base t w : D) : Env := (Str.ofString "whole", w) :: (Str.ofString "t", t) :: s5 l a m f B Sc base
theorem op_add21 {b : Nat} {x y z : D} : Op2 W b (binaryOp .Add) (.lst [x, y]) (.lst [z]) (.lst [x, y, z]) := op_addL (xs := [x, y]) (ys := [z]) (show 2 ≤ 1000 by decide) (show 1 ≤ 1000 by decide)

theorem law_s3 (F : Fa W) (l a m : Int) (f : Bool) (B Sc : Addr) : X1 W 30 (scopeS (stm 91)) (s2 l a m f B Sc) (lawSt 3) (.nxt (s3 l a m f B Sc)) := by
  conv => arg 5; whnf
  (with_reducible apply x1_swap2; apply ev_tup; apply evs_cons; apply ev_call; kernel_rfl!; kernel_rfl!; apply evs_cons; exact ev_str; exact evs_nil)
  intros
  (with_reducible kernel_rfl!; exact c_tsym (by assumption) _)
  exact leT (by kernel_rfl!); intros
  (with_reducible kernel_rfl!; apply evs_cons; apply ev_bin; apply ev_var; apply lk_tl; kernel_rfl!; exact lk_hd; kernel_rfl!; apply ev_var; exact lk_hd; kernel_rfl!; exact op_add; exact evs_nil)
  intros
  kernel_rfl!
  intros
  kernel_rfl!
  exact leT (by kernel_rfl!)
  (with_reducible kernel_rfl!; kernel_rfl!)
  intro env h; cases env; subst h
  kernel_rfl!
theorem law_s4t (F : Fa W) (l a m : Int) (B Sc : Addr) : X1 W 30 (scopeS (stm 91)) (s3 l a m true B Sc) (lawSt 4) (.nxt ((Str.ofString "base", Bs (l + a) Sy) :: s3 l a m true B Sc)) := by
  conv => arg 5; whnf
  (with_reducible apply x1_assign; apply ev_if; apply ts_val; apply ev_var; apply lk_tl; kernel_rfl!; apply lk_tl; kernel_rfl!; apply lk_tl; kernel_rfl!; apply lk_tl; kernel_rfl!; exact lk_hd; kernel_rfl!)
  intros
  (with_reducible kernel_rfl!; apply are_t; apply ev_call; kernel_rfl!; kernel_rfl!; apply evs_cons; apply ev_lst; apply evs_cons; apply ev_call; kernel_rfl!; kernel_rfl!; apply evs_cons; apply ev_var; apply lk_tl; kernel_rfl!; exact lk_hd; kernel_rfl!; apply evs_cons; exact ev_int; exact evs_nil)
  intros
  kernel_rfl!
  intros
  (with_reducible kernel_rfl!; exact c_tnum (by assumption) _)
  exact leT (by kernel_rfl!); intros
  (with_reducible kernel_rfl!; apply evs_cons; apply ev_call; kernel_rfl!; kernel_rfl!; apply evs_cons; apply ev_lst; apply evs_cons; apply ev_call; kernel_rfl!; kernel_rfl!; apply evs_cons; exact ev_neg; apply evs_cons; exact ev_int; exact evs_nil)
  intros
  kernel_rfl!
  intros
  (with_reducible kernel_rfl!; exact c_tnum (by assumption) _)
  exact leT (by kernel_rfl!); intros
  (with_reducible kernel_rfl!; apply evs_cons; apply ev_var; exact lk_hd; kernel_rfl!; exact evs_nil)
  intros
  kernel_rfl!
  intros
  kernel_rfl!
  exact leT (by kernel_rfl!)
  with_reducible exact evs_nil
  intros
  (with_reducible kernel_rfl!; exact c_tprod2 (by assumption) _ _)
  exact leT (by kernel_rfl!); intros
  (with_reducible kernel_rfl!; exact evs_nil)
  intros
  kernel_rfl!
  intros
  kernel_rfl!
  exact leT (by kernel_rfl!)
  with_reducible exact evs_nil
  intros
  (with_reducible kernel_rfl!; exact c_tsum2 (by assumption) _ _)
  exact leT (by kernel_rfl!); intros
  (with_reducible kernel_rfl!; kernel_rfl!)
  intros
  kernel_rfl!
theorem law_s4f (F : Fa W) (l a m : Int) (B Sc : Addr) : X1 W 30 (scopeS (stm 91)) (s3 l a m false B Sc) (lawSt 4) (.nxt ((Str.ofString "base", Sy) :: s3 l a m false B Sc)) := by
  conv => arg 5; whnf
  (with_reducible apply x1_assign; apply ev_if; apply ts_val; apply ev_var; apply lk_tl; kernel_rfl!; apply lk_tl; kernel_rfl!; apply lk_tl; kernel_rfl!; apply lk_tl; kernel_rfl!; exact lk_hd; kernel_rfl!)
  intros
  (with_reducible kernel_rfl!; apply are_f; apply ev_var; exact lk_hd; kernel_rfl!; kernel_rfl!)
  intros
  kernel_rfl!
theorem law_s5 (F : Fa W) (l a m : Int) (f : Bool) (B Sc : Addr) (base : D) : X1 W 30 (scopeS (stm 91)) ((Str.ofString "base", base) :: s3 l a m f B Sc) (lawSt 5) (.nxt (s5 l a m f B Sc base)) := by
  conv => arg 5; whnf
  (with_reducible apply x1_assign; apply ev_lst; apply evs_cons; apply ev_call; kernel_rfl!; kernel_rfl!; apply evs_cons; apply ev_var; apply lk_tl; kernel_rfl!; apply lk_tl; kernel_rfl!; apply lk_tl; kernel_rfl!; apply lk_tl; kernel_rfl!; apply lk_tl; kernel_rfl!; apply lk_tl; kernel_rfl!; exact lk_hd; kernel_rfl!; apply evs_cons; exact ev_int; exact evs_nil)
  intros
  kernel_rfl!
  intros
  (with_reducible kernel_rfl!; exact c_tnum (by assumption) _)
  exact leT (by kernel_rfl!); intros
  (with_reducible kernel_rfl!; apply evs_cons; apply ev_call; kernel_rfl!; kernel_rfl!; apply evs_cons; exact ev_str; apply evs_cons; apply ev_lst; apply evs_cons; apply ev_var; exact lk_hd; kernel_rfl!; exact evs_nil)
  intros
  kernel_rfl!
  exact leT (by kernel_rfl!)
  with_reducible exact evs_nil
  intros
  kernel_rfl!
  intros
  (with_reducible kernel_rfl!; exact c_tcall (by assumption) _ _)
  exact leT (by kernel_rfl!); intros
  (with_reducible kernel_rfl!; exact evs_nil)
  intros
  kernel_rfl!
  intros
  kernel_rfl!
  exact leT (by kernel_rfl!)
  kernel_rfl!
  intros
  kernel_rfl!
def asgV : Stmt → Expr
  | .Assign _ v _ => v
  | _ => .Name (Str.ofString "") ⟨0, 0, 0, 0⟩
theorem law_s6 (F : Fa W) (l a m : Int) (f : Bool) (B Sc : Addr) (base : D) : Ev W 30 (scopeS (stm 91)) (s5 l a m f B Sc base) (asgV (lawSt 6)) (Pr [Nm m, Fc [base], base]) := by
  conv => arg 5; whnf
  (with_reducible apply ev_call; kernel_rfl!; kernel_rfl!; apply evs_cons; apply ev_bin; apply ev_var; exact lk_hd; kernel_rfl!; apply ev_lst; apply evs_cons; apply ev_var; apply lk_tl; kernel_rfl!; exact lk_hd; kernel_rfl!; exact evs_nil)
  intros
  kernel_rfl!
  exact leT (by kernel_rfl!)
  (with_reducible exact op_add21; exact evs_nil)
  intros
  (with_reducible kernel_rfl!; exact c_tprod3 (by assumption) _ _ _)
  exact leT (by kernel_rfl!); intros
  kernel_rfl!
theorem law_s7t (F : Fa W) (l a m : Int) (B Sc : Addr) (base t : D) : Ev W 30 (scopeS (stm 91)) ((Str.ofString "t", t) :: s5 l a m true B Sc base) (asgV (lawSt 7)) (Pr [Nm m, Fc [base], Sm [Sy, Nm (0 - (l + a) - 1)]]) := by
  conv => arg 5; whnf
  (with_reducible apply ev_if; apply ts_val; apply ev_var; apply lk_tl; kernel_rfl!; apply lk_tl; kernel_rfl!; apply lk_tl; kernel_rfl!; apply lk_tl; kernel_rfl!; apply lk_tl; kernel_rfl!; apply lk_tl; kernel_rfl!; apply lk_tl; kernel_rfl!; exact lk_hd; kernel_rfl!)
  intros
  (with_reducible kernel_rfl!; apply are_t; apply ev_call; kernel_rfl!; kernel_rfl!; apply evs_cons; apply ev_bin; apply ev_var; apply lk_tl; kernel_rfl!; exact lk_hd; kernel_rfl!; apply ev_lst; apply evs_cons; apply ev_call; kernel_rfl!; kernel_rfl!; apply evs_cons; apply ev_lst; apply evs_cons; apply ev_var; apply lk_tl; kernel_rfl!; apply lk_tl; kernel_rfl!; apply lk_tl; kernel_rfl!; exact lk_hd; kernel_rfl!; apply evs_cons; apply ev_call; kernel_rfl!; kernel_rfl!; apply evs_cons; apply ev_bin; apply ev_bin; exact ev_int; apply ev_var; apply lk_tl; kernel_rfl!; apply lk_tl; kernel_rfl!; apply lk_tl; kernel_rfl!; apply lk_tl; kernel_rfl!; exact lk_hd; kernel_rfl!; exact op_sub; exact ev_int; exact op_sub; apply evs_cons; exact ev_int; exact evs_nil)
  intros
  kernel_rfl!
  intros
  (with_reducible kernel_rfl!; exact c_tnum (by assumption) _)
  exact leT (by kernel_rfl!); intros
  (with_reducible kernel_rfl!; exact evs_nil)
  intros
  kernel_rfl!
  intros
  kernel_rfl!
  exact leT (by kernel_rfl!)
  with_reducible exact evs_nil
  intros
  (with_reducible kernel_rfl!; exact c_tsum2 (by assumption) _ _)
  exact leT (by kernel_rfl!); intros
  (with_reducible kernel_rfl!; exact evs_nil)
  intros
  kernel_rfl!
  exact leT (by kernel_rfl!)
  (with_reducible exact op_add21; exact evs_nil)
  intros
  (with_reducible kernel_rfl!; exact c_tprod3 (by assumption) _ _ _)
  exact leT (by kernel_rfl!); intros
  kernel_rfl!
theorem law_s7f (F : Fa W) (l a m : Int) (B Sc : Addr) (base t : D) : Ev W 30 (scopeS (stm 91)) ((Str.ofString "t", t) :: s5 l a m false B Sc base) (asgV (lawSt 7)) (Pr [Nm m, Fc [base]]) := by
  conv => arg 5; whnf
  (with_reducible apply ev_if; apply ts_val; apply ev_var; apply lk_tl; kernel_rfl!; apply lk_tl; kernel_rfl!; apply lk_tl; kernel_rfl!; apply lk_tl; kernel_rfl!; apply lk_tl; kernel_rfl!; apply lk_tl; kernel_rfl!; apply lk_tl; kernel_rfl!; exact lk_hd; kernel_rfl!)
  intros
  (with_reducible kernel_rfl!; apply are_f; apply ev_call; kernel_rfl!; kernel_rfl!; apply evs_cons; apply ev_var; apply lk_tl; kernel_rfl!; exact lk_hd; kernel_rfl!; exact evs_nil)
  intros
  (with_reducible kernel_rfl!; exact c_tprod2 (by assumption) _ _)
  exact leT (by kernel_rfl!); intros
  kernel_rfl!
theorem num_eqv (x : Int) : PyData.eqv (.tuple [.str (Str.ofString "num"), .int x, .int 1]) (.tuple [.str (Str.ofString "num"), .int x, .int 1]) = true := PySem.SeqAt.eqv_refl _ (by kernel_rfl!)
theorem law_end_t (F : Fa W) (l a m : Int) (B Sc : Addr) (base t w : D) (im : IntMulOk m (fct a)) (a0 : -100 ≤ a) (a1 : a ≤ 100) : Xs W 30 (scopeS (stm 91)) ((Str.ofString "told", Nm (0 - m * fct a)) :: s7 l a m true B Sc base t w) [lawSt 9, lawSt 10] (.ret (.bool true)) := by
  refine xs_seq (o1 := .ret (.bool true)) ?_ xk_ret
  conv => arg 5; whnf
  (with_reducible apply x1_if; apply ts_val; apply ev_var; apply lk_tl; kernel_rfl!; apply lk_tl; kernel_rfl!; apply lk_tl; kernel_rfl!; apply lk_tl; kernel_rfl!; apply lk_tl; kernel_rfl!; apply lk_tl; kernel_rfl!; apply lk_tl; kernel_rfl!; apply lk_tl; kernel_rfl!; apply lk_tl; kernel_rfl!; exact lk_hd; kernel_rfl!)
  intros
  (with_reducible kernel_rfl!; apply ar_t; apply xs_seq; apply x1_return; apply ev_cmp; apply ev_var; exact lk_hd; kernel_rfl!; apply ev_tup; apply evs_cons; exact ev_str; apply evs_cons; apply ev_bin; exact ev_int; apply ev_bin; apply ev_var; apply lk_tl; kernel_rfl!; apply lk_tl; kernel_rfl!; apply lk_tl; kernel_rfl!; apply lk_tl; kernel_rfl!; apply lk_tl; kernel_rfl!; apply lk_tl; kernel_rfl!; apply lk_tl; kernel_rfl!; apply lk_tl; kernel_rfl!; apply lk_tl; kernel_rfl!; apply lk_tl; kernel_rfl!; exact lk_hd; kernel_rfl!; apply ev_call; kernel_rfl!; kernel_rfl!; apply evs_cons; apply ev_var; apply lk_tl; kernel_rfl!; apply lk_tl; kernel_rfl!; apply lk_tl; kernel_rfl!; apply lk_tl; kernel_rfl!; apply lk_tl; kernel_rfl!; apply lk_tl; kernel_rfl!; apply lk_tl; kernel_rfl!; exact lk_hd; kernel_rfl!; exact evs_nil)
  intros
  kernel_rfl!
  exact c_law_product (by assumption) _ (by omega) (by omega); exact leT (by kernel_rfl!); intros
  (with_reducible kernel_rfl!; apply op_mul)
  assumption
  (with_reducible exact op_sub; apply evs_cons; exact ev_int; exact evs_nil)
  intros
  kernel_rfl!
  intros
  kernel_rfl!
  intros
  kernel_rfl!
  exact leT (by kernel_rfl!)
  (with_reducible apply op_eqD; apply DP.tup; apply DPs.cons; exact DP.str _; apply DPs.cons; exact DP.int _; apply DPs.cons; exact DP.int _; exact DPs.nil; apply DP.tup; apply DPs.cons; exact DP.str _; apply DPs.cons; exact DP.int _; apply DPs.cons; exact DP.int _; exact DPs.nil; kernel_rfl!; kernel_rfl!)
  exact leT (by kernel_rfl!); exact num_eqv _
  (with_reducible kernel_rfl!; exact xk_ret)
theorem law_end_f (F : Fa W) (l a m : Int) (B Sc : Addr) (base t w : D) (im : IntMulOk m (fct (l + 1))) (l0 : -1 ≤ l) (l1 : l ≤ 90) : Xs W 30 (scopeS (stm 91)) ((Str.ofString "told", Nm (m * fct (l + 1))) :: s7 l a m false B Sc base t w) [lawSt 9, lawSt 10] (.ret (.bool true)) := by
  refine xs_seq (o1 := .nxt ((Str.ofString "told", Nm (m * fct (l + 1))) :: s7 l a m false B Sc base t w)) ?_ (xk_nxt (xs_seq (o1 := .ret (.bool true)) ?_ xk_ret))
  · conv => arg 5; whnf
    (with_reducible apply x1_if; apply ts_val; apply ev_var; apply lk_tl; kernel_rfl!; apply lk_tl; kernel_rfl!; apply lk_tl; kernel_rfl!; apply lk_tl; kernel_rfl!; apply lk_tl; kernel_rfl!; apply lk_tl; kernel_rfl!; apply lk_tl; kernel_rfl!; apply lk_tl; kernel_rfl!; apply lk_tl; kernel_rfl!; exact lk_hd; kernel_rfl!)
    intros
    (with_reducible kernel_rfl!; apply ar_f; exact xs_nil)
  · conv => arg 5; whnf
    (with_reducible apply x1_return; apply ev_cmp; apply ev_var; exact lk_hd; kernel_rfl!; apply ev_if; apply ts_cmp; apply ev_var; apply lk_tl; kernel_rfl!; apply lk_tl; kernel_rfl!; apply lk_tl; kernel_rfl!; apply lk_tl; kernel_rfl!; apply lk_tl; kernel_rfl!; apply lk_tl; kernel_rfl!; apply lk_tl; kernel_rfl!; apply lk_tl; kernel_rfl!; exact lk_hd; kernel_rfl!; exact ev_neg; apply op_geI; apply decT)
    omega
    (with_reducible kernel_rfl!; apply are_t; apply ev_tup; apply evs_cons; exact ev_str; apply evs_cons; apply ev_bin; apply ev_var; apply lk_tl; kernel_rfl!; apply lk_tl; kernel_rfl!; apply lk_tl; kernel_rfl!; apply lk_tl; kernel_rfl!; apply lk_tl; kernel_rfl!; apply lk_tl; kernel_rfl!; apply lk_tl; kernel_rfl!; apply lk_tl; kernel_rfl!; apply lk_tl; kernel_rfl!; apply lk_tl; kernel_rfl!; exact lk_hd; kernel_rfl!; apply ev_call; kernel_rfl!; kernel_rfl!; apply evs_cons; apply ev_bin; apply ev_var; apply lk_tl; kernel_rfl!; apply lk_tl; kernel_rfl!; apply lk_tl; kernel_rfl!; apply lk_tl; kernel_rfl!; apply lk_tl; kernel_rfl!; apply lk_tl; kernel_rfl!; apply lk_tl; kernel_rfl!; apply lk_tl; kernel_rfl!; exact lk_hd; kernel_rfl!; exact ev_int; exact op_add; exact evs_nil)
    intros
    kernel_rfl!
    exact c_law_product (by assumption) _ (by omega) (by omega); exact leT (by kernel_rfl!); intros
    (with_reducible kernel_rfl!; apply op_mul)
    assumption
    (with_reducible apply evs_cons; exact ev_int; exact evs_nil)
    intros
    kernel_rfl!
    intros
    kernel_rfl!
    intros
    kernel_rfl!
    exact leT (by kernel_rfl!)
    (with_reducible apply op_eqD; apply DP.tup; apply DPs.cons; exact DP.str _; apply DPs.cons; exact DP.int _; apply DPs.cons; exact DP.int _; exact DPs.nil; apply DP.tup; apply DPs.cons; exact DP.str _; apply DPs.cons; exact DP.int _; apply DPs.cons; exact DP.int _; exact DPs.nil; kernel_rfl!; kernel_rfl!)
    exact leT (by kernel_rfl!); exact num_eqv _
    kernel_rfl!
theorem law_end_r (F : Fa W) (l a m : Int) (B Sc : Addr) (base t w : D) (l0 : l < -1) : Xs W 30 (scopeS (stm 91)) ((Str.ofString "told", .str (Str.ofString "domain")) :: s7 l a m false B Sc base t w) [lawSt 9, lawSt 10] (.ret (.bool true)) := by
  refine xs_seq (o1 := .nxt ((Str.ofString "told", .str (Str.ofString "domain")) :: s7 l a m false B Sc base t w)) ?_ (xk_nxt (xs_seq (o1 := .ret (.bool true)) ?_ xk_ret))
  · conv => arg 5; whnf
    (with_reducible apply x1_if; apply ts_val; apply ev_var; apply lk_tl; kernel_rfl!; apply lk_tl; kernel_rfl!; apply lk_tl; kernel_rfl!; apply lk_tl; kernel_rfl!; apply lk_tl; kernel_rfl!; apply lk_tl; kernel_rfl!; apply lk_tl; kernel_rfl!; apply lk_tl; kernel_rfl!; apply lk_tl; kernel_rfl!; exact lk_hd; kernel_rfl!)
    intros
    (with_reducible kernel_rfl!; apply ar_f; exact xs_nil)
  · conv => arg 5; whnf
    (with_reducible apply x1_return; apply ev_cmp; apply ev_var; exact lk_hd; kernel_rfl!; apply ev_if; apply ts_cmp; apply ev_var; apply lk_tl; kernel_rfl!; apply lk_tl; kernel_rfl!; apply lk_tl; kernel_rfl!; apply lk_tl; kernel_rfl!; apply lk_tl; kernel_rfl!; apply lk_tl; kernel_rfl!; apply lk_tl; kernel_rfl!; apply lk_tl; kernel_rfl!; exact lk_hd; kernel_rfl!; exact ev_neg; apply op_geI; apply decF)
    omega
    (with_reducible kernel_rfl!; apply are_f; exact ev_str; apply op_eqS; kernel_rfl!; kernel_rfl!)
theorem rvs_of_ints {g : Heap} : ∀ {vs : List Value} {ns : List Int}, IntsAre vs ns → RVs W g vs (ns.map .int)
  | _, _, .nil => .nil
  | _, _, .cons n t h => .cons (.int n t) (rvs_of_ints h)

/-- box = [list(script[:8]), 0] -/
theorem law_s0 (F : Fa W) {b : Nat} {A : Around} {env : PySem.Env} {X : List Addr} {s : Shared} {Sc : Addr} {svs : List Value} {zs : List Int} {Q : Flow → Shared → Prop} {E : Value → Shared → Prop} (e : EnvOK W b (scopeS (stm 91)) A env [(Str.ofString "script", .adr Sc)] X s.heap)
    (sl : (G X s.heap).IsList Sc svs.toArray) (si : IntsAre svs zs) (hz : zs.length ≤ 63)
    (h : ∀ h' tk' B S, s.heap.get? B = none → B ≠ env.locals → Chg [env.locals] s.heap h' → BoxAt W B S (zs.take 8) 0 (B :: X) h' → EnvOK W b (scopeS (stm 91)) A env [(Str.ofString "box", .adr B), (Str.ofString "script", .adr Sc)] (B :: X) h' → Q .next { s with heap := h', toks := tk' }) :
    wpAny (model W.prog W.w) A (exec (lawSt 0) env) Q E s := by
  conv => arg 3; arg 1; whnf
  refine wpAny_Assign_Name (hs := rfl) (wpAny_List (wpAny_items_cons (he := rfl) (Call_ (name_bi (bi_list F) (by kernel_rfl!) (by kernel_rfl!) e (callWith_type1 (he := rfl) (hplain := rfl) (wpAny_items_cons (he := rfl) (wpAny_Subscript_list_slice ?_)))))))
  refine (ev_var (W := W) (b := b) (sc := scopeS (stm 91)) (σ := [(Str.ofString "script", .adr Sc)]) (d := .adr Sc) (by kernel_rfl!) (by kernel_rfl!)).go A env X _ _ _ e fun v h₁ t₁ k₁ r₁ => ?_
  cases r₁
  refine wpAny_evalPart_none (wpAny_evalPart_some ((ev_int (W := W) (b := b) (sc := scopeS (stm 91)) (σ := [(Str.ofString "script", .adr Sc)])).go A env X _ _ _ (e.keep k₁) fun v h₂ t₂ k₂ r₂ => ?_))
  cases r₂
  have k12 : Keep s.heap h₂ := k₁.trans k₂
  have e2 := (e.keep k₁).keep k₂
  have lsz : svs.length = zs.length := si.length
  refine ⟨Sc, svs.toArray, none, some 8, rfl, (let ⟨o, q1, q2⟩ := sl; ⟨o, k12 _ _ (g_sub _ _ q1), q2⟩), by rw [List.size_toArray, lsz, sizeLine_is]; omega, .none, .int 8 _, ?_⟩
  have k2s : ∀ (o1 o2 : Obj), Keep h₂ ((h₂.push o1).push o2) := fun o1 o2 b o q => Heap.get?_push_of_some _ (Heap.get?_push_of_some _ q)
  have hD : ∀ (o1 o2 : Obj), (h2 : o2.isFreed = false) → ((h₂.push o1).push o2).get? (h₂.objs.size + 1) = some o2 := fun o1 o2 h2 => by
    have := Heap.get?_push_size (h₂.push o1) (o := o2) h2
    rwa [Heap.size_push] at this
  have nD : h₂.get? (h₂.objs.size + 1) = none := Heap.get?_none_of_le (Nat.le_succ _)
  refine wpAny_items_nil ?_
  have pick : slicePick svs.toArray none (some 8) none = (svs.take 8).toArray := by
    have := slicePick_upto' svs.toArray 8
    simpa using this
  rw [pick]
  have rD : RVs W (G X h₂) (svs.take 8) ((zs.take 8).map .int) := rvs_of_ints (si.take 8)
  refine (cv_list_lst (W := W) (b := b) (ds := (zs.take 8).map .int) (by simp; omega)).go A X _ [.ref (h₂.objs.size + 1)] _ _ (e2.keep (k2s _ _)).cx (.cons (.lst (vs := svs.take 8) ⟨0, g_get (hD _ _ rfl) (e2.fresh nD)⟩ (rD.keep (g_keep (k2s _ _)))) .nil) fun v h₃ t₃ k₃ r₃ => ?_
  cases r₃ with
  | @lst S svs' _ lS rS =>
  have e3 := (e2.keep (k2s _ _)).keep k₃
  refine wpAny_items_cons (he := rfl) ((ev_int (W := W) (b := b) (sc := scopeS (stm 91)) (σ := [(Str.ofString "script", .adr Sc)])).go A env X _ _ _ e3 fun v h₄ t₄ k₄ r₄ => wpAny_items_nil ⟨by show 2 ≤ sizeLine; rw [sizeLine_is]; omega, ?_⟩)
  cases r₄
  rename_i t0
  have e4 := e3.keep k₄
  have nB := none_of_size h₄
  have k5 : Keep h₄ (h₄.push { cls := .type "list", data := .seq [Value.ref S, Value.int 0 t0].toArray }) := fun b o q => Heap.get?_push_of_some _ q
  have oB : (h₄.push { cls := .type "list", data := .seq [Value.ref S, Value.int 0 t0].toArray }).get? h₄.objs.size = some { cls := .type "list", data := .seq [Value.ref S, Value.int 0 t0].toArray } := Heap.get?_push_size _ rfl
  have e5 := e4.more k5 nB ⟨_, oB⟩
  have BL : h₄.objs.size ≠ env.locals := fun q => e4.fresh nB (q ▸ e.inX)
  have k05 : Keep s.heap (h₄.push { cls := .type "list", data := .seq [Value.ref S, Value.int 0 t0].toArray }) := fun b o q => k5 _ _ (k₄ _ _ (k₃ _ _ (k2s _ _ _ _ (k12 _ _ q))))
  have nB0 : s.heap.get? h₄.objs.size = none := by
    cases z : s.heap.get? h₄.objs.size with
    | none => rfl
    | some o => have := k₄ _ _ (k₃ _ _ (k2s _ _ _ _ (k12 _ _ z))); rw [nB] at this; cases this
  refine store_ok e5 (.adr h₄.objs.size) (by kernel_rfl!) fun h₆ t₆ c₆ e₆ => ?_
  have g56 : Keep (G (h₄.objs.size :: X) (h₄.push { cls := .type "list", data := .seq [Value.ref S, Value.int 0 t0].toArray })) (G (h₄.objs.size :: X) h₆) := g_chg (c₆.mono fun y q => by simp at q; subst q; exact .tail _ e.inX)
  have gS : Keep (G X h₃) (G (h₄.objs.size :: X) h₆) := ((g_keep k₄).trans (g_more k5.chg nB)).trans g56
  exact h h₆ t₆ h₄.objs.size S nB0 BL (fun b o hb q => c₆ b o hb (k05 _ _ q)) ⟨.head _, ⟨0, t0, c₆ _ _ (by simpa using BL) oB⟩, svs', lS.keep gS, rS.keep gS⟩ e₆
section
variable {b : Nat} {sc : Scope} {σ : Env} {B S : Addr} {zs : List Int}
theorem asg_box2 {x y : Str} {px py pt pv p : Pos} {j kv : Nat} {es : List Expr} {d1 d2 : D} {k k' : Nat} (h1 : EvB W b sc σ B S zs k k' (.Tuple es kv pv) (.tup [d1, d2]))
    (hw : ∀ env : PySem.Env, env.scope = sc → swappedStores [.Tuple [.Name x px, .Name y py] j pt] (.Tuple es kv pv) env = pure (some [x, y]))
    {A : Around} {env : PySem.Env} {X : List Addr} {s : Shared} {Q : Flow → Shared → Prop} {E : Value → Shared → Prop} (e : EnvOK W b sc A env σ X s.heap) (n : B ≠ env.locals) (bx : BoxAt W B S zs k X s.heap)
    (h : ∀ v1 v2 h' tk', Chg [B] s.heap h' → BoxAt W B S zs k' X h' → EnvOK W b sc A env σ X h' → RV W (G X h') v1 d1 → RV W (G X h') v2 d2 → wpAny (model W.prog W.w) A (bindName env y v2) (fun _ s₁ => wpAny (model W.prog W.w) A (bindName env x v1) (fun _ s₂ => Q .next s₂) E s₁) E { s with heap := h', toks := tk' }) :
    wpAny (model W.prog W.w) A (exec (.Assign [.Tuple [.Name x px, .Name y py] j pt] (.Tuple es kv pv) p) env) Q E s := by
  refine Assign_Tuple_swapped (names := [x, y]) (hw := hw env e.scope) (h1.go A env X s _ _ e n bx fun u h₁ t₁ c₁ x₁ r₁ => unpack_ok (ds := [d1, d2]) (bx.env e n c₁ x₁).cx r₁ fun vs h₂ t₂ k₂ r₂ => ?_)
  cases r₂ with
  | @cons v1 _ _ _ q1 r₂ => cases r₂ with
    | @cons v2 _ _ _ q2 r₂ =>
      cases r₂
      show wpAny _ A (do holding [v1] (bindName env y v2); (do holding [] (bindName env x v1); pure ())) _ _ _
      refine wpAny_bind (wpAny_holding (wpAny_mono (h v1 v2 h₂ t₂ (c₁.trans k₂.chg) (x₁.keep k₂) ((bx.env e n c₁ x₁).keep k₂) q1 q2) (fun _ s₁ z => ?_) fun _ _ z => z))
      exact wpAny_bind (wpAny_holding (wpAny_mono z (fun _ s₂ z => wpAny_pure z) fun _ _ z => z))
theorem asg_box2u {x y : Str} {px py pt p : Pos} {j : Nat} {v : Expr} {d1 d2 : D} {k k' : Nat} (h1 : EvB W b sc σ B S zs k k' v (.tup [d1, d2]))
    (hs : ∀ env, swapsWithSole [.Tuple [.Name x px, .Name y py] j pt] v p.line env = pure false) (hw : ∀ env : PySem.Env, env.scope = sc → swappedStores [.Tuple [.Name x px, .Name y py] j pt] v env = pure none)
    {A : Around} {env : PySem.Env} {X : List Addr} {s : Shared} {Q : Flow → Shared → Prop} {E : Value → Shared → Prop} (e : EnvOK W b sc A env σ X s.heap) (n : B ≠ env.locals) (bx : BoxAt W B S zs k X s.heap)
    (h : ∀ v1 v2 h' tk', Chg [B] s.heap h' → BoxAt W B S zs k' X h' → EnvOK W b sc A env σ X h' → RV W (G X h') v1 d1 → RV W (G X h') v2 d2 → wpAny (model W.prog W.w) A (storeName env x v1) (fun _ s₁ => wpAny (model W.prog W.w) A (storeName env y v2) (fun _ s₂ => Q .next s₂) E s₁) E { s with heap := h', toks := tk' }) :
    wpAny (model W.prog W.w) A (exec (.Assign [.Tuple [.Name x px, .Name y py] j pt] v p) env) Q E s := by
  refine Assign_Tuple (h1.go A env X s _ _ e n bx fun u h₁ t₁ c₁ x₁ r₁ => ?_) (hs env) (hw env e.scope)
  rw [arm_assign_Tuple]
  refine wpAny_bind (wpAny_standAt ?_)
  show wpAny _ A (do
    let items ← holding [u] (unpackItems u 2 none)
    assignInOrder [assign (.Name x px) env, assign (.Name y py) env] items) _ _ _
  refine wpAny_bind (wpAny_holding (unpack_ok (ds := [d1, d2]) (bx.env e n c₁ x₁).cx r₁ fun vs h₂ t₂ k₂ r₂ => ?_))
  cases r₂ with
  | @cons v1 _ _ _ q1 r₂ => cases r₂ with
    | @cons v2 _ _ _ q2 r₂ =>
      cases r₂
      refine wpAny_bind (wpAny_holding (wpAny_assign_Name (wpAny_mono (h v1 v2 h₂ t₂ (c₁.trans k₂.chg) (x₁.keep k₂) ((bx.env e n c₁ x₁).keep k₂) q1 q2) (fun _ s₁ z => ?_) fun _ _ z => z)))
      exact wpAny_bind (wpAny_holding (wpAny_assign_Name (wpAny_mono z (fun _ s₂ z => wpAny_pure z) fun _ _ z => z)))
end

theorem law_s1 (F : Fa W) {b : Nat} {σ : Env} {B S : Addr} {zs : List Int} (hz : zs.length ≤ 64) (lb : σ.lookup (Str.ofString "box") = some (.adr B)) {A : Around} {env : PySem.Env} {X : List Addr} {s : Shared} {Q : Flow → Shared → Prop} {E : Value → Shared → Prop} (e : EnvOK W (b + 1) (scopeS (stm 91)) A env σ X s.heap) (n : B ≠ env.locals) (bx : BoxAt W B S zs 0 X s.heap)
    (h : ∀ h' tk', Chg [B, env.locals] s.heap h' → BoxAt W B S zs 2 X h' → EnvOK W (b + 1) (scopeS (stm 91)) A env ((Str.ofString "is_falling", .bool (takeV zs 0 2 == 1)) :: (Str.ofString "many", .int (1 + takeV zs 1 3)) :: σ) X h' → Q .next { s with heap := h', toks := tk' }) :
    wpAny (model W.prog W.w) A (exec (lawSt 1) env) Q E s := by
  conv => arg 3; arg 1; whnf
  refine asg_box2 (k' := 2) (d1 := .bool (takeV zs 0 2 == 1)) (d2 := .int (1 + takeV zs 1 3)) (eb_tup2 (eb_cmp (eb_take F hz (.inl rfl) (.inl rfl) (by kernel_rfl!) lb) (eb_of ev_int) (op_eqI rfl) ?_) (eb_bin (eb_of ev_int) (eb_take F hz (.inr (.inl rfl)) (.inr (.inl rfl)) (by kernel_rfl!) lb) op_add) (fun _ => rfl) (fun _ => rfl)) (by intro env h; cases env; subst h; kernel_rfl!) e n bx fun v1 v2 h₁ t₁ c₁ x₁ e₁ r1 r2 => ?_
  · kernel_rfl!
  refine bind_ok e₁ r2 (by kernel_rfl!) fun h₂ t₂ c₂ e₂ => ?_
  have cx : Chg X h₁ h₂ := c₂.mono fun b q => by simp at q; subst q; exact e.inX
  refine bind_ok e₂ (r1.keep (g_chg cx)) (by kernel_rfl!) fun h₃ t₃ c₃ e₃ => ?_
  have c13 : Chg [env.locals] h₁ h₃ := c₂.trans c₃
  refine h h₃ t₃ ((c₁.mono fun y q => by simp at q; simp [q]).trans (c13.mono fun y q => by simp at q; simp [q])) ?_ e₃
  obtain ⟨q1, ⟨n5, tb, q2⟩, svs, q3, q4⟩ := x₁
  have g : Keep (G X h₁) (G X h₃) := g_chg (c13.mono fun b q => by simp at q; subst q; exact e.inX)
  exact ⟨q1, ⟨n5, tb, c13 _ _ (by simpa using n) q2⟩, svs, q3.keep g, q4.keep g⟩

theorem law_s2 (F : Fa W) {b : Nat} {σ : Env} {B S : Addr} {zs : List Int} (hz : zs.length ≤ 64) (lb : σ.lookup (Str.ofString "box") = some (.adr B)) {j : Nat} {a : Int} (hj : takeV zs 3 3 = (j : Int)) (ha : [D.int 0, D.int 3, D.int 1][j]? = some (.int a)) (hj3 : j < 1000)
    {A : Around} {env : PySem.Env} {X Y : List Addr} {s : Shared} {Q : Flow → Shared → Prop} {E : Value → Shared → Prop} (e : EnvOK W (b + 1) (scopeS (stm 91)) A env σ X s.heap) (n : B ≠ env.locals) (bx : BoxAt W B S zs 2 X s.heap)
    {c : Addr} (hc : env.cells.lookup (Str.ofString "last") = some c) (hv : s.heap.IsCell c none) (cX : c ∈ X) (cL : c ≠ env.locals) (cB : c ≠ B) (hY : ∀ y ∈ Y, y ∈ X) (cY : c ∉ Y) (iY : env.locals ∈ Y)
    (h : ∀ h' tk', Chg [B, env.locals, c] s.heap h' → EnvOK W (b + 1) (scopeS (stm 91)) A env ((Str.ofString "apart", .int a) :: (Str.ofString "last", .int (takeV zs 2 8 - 2)) :: σ) Y h' → Q .next { s with heap := h', toks := tk' }) :
    wpAny (model W.prog W.w) A (exec (lawSt 2) env) Q E s := by
  conv => arg 3; arg 1; whnf
  have tk3 : ∀ {p pos px pc : Pos} {jj : Nat}, EvB W (b + 1) (scopeS (stm 91)) σ B S zs 3 4 (.Call (.Name (Str.ofString "_law_take") p) [.Name (Str.ofString "box") px, .Constant (.int 3) jj pc] [] pos) (.int (j : Int)) := fun {p pos px pc jj} => by
    rw [← hj]; exact eb_take F hz (.inr (.inr (.inr rfl))) (.inr (.inl rfl)) (by kernel_rfl!) lb
  refine asg_box2u (k' := 4) (d1 := .int (takeV zs 2 8 - 2)) (d2 := .int a) (eb_tup2 (eb_bin (eb_take F hz (.inr (.inr (.inl rfl))) (.inr (.inr rfl)) (by kernel_rfl!) lb) (eb_of ev_int) op_sub) (eb_item (ds := [.int 0, .int 3, .int 1]) (ev_lst (evs_cons ev_int (evs_cons ev_int (evs_cons ev_int evs_nil fun _ => rfl) fun _ => rfl) fun _ => rfl) (by decide)) tk3 ha hj3 (fun _ _ => rfl)) (fun _ => rfl) (fun _ => rfl)) (fun _ => rfl) (by intro env h; cases env; subst h; kernel_rfl!) e n bx fun v1 v2 h₁ t₁ c₁ x₁ e₁ r1 r2 => ?_
  have hv1 : h₁.IsCell c none := by
    obtain ⟨o, q, d⟩ := hv
    exact ⟨o, c₁ _ _ (by simpa using cB) q, d⟩
  refine cell_store e₁ r1 (by kernel_rfl!) hc hv1 cX cL hY cY iY fun h₂ c₂ e₂ => ?_
  have g : Keep (G X h₁) (G Y h₂) := (g_chg (c₂.mono fun y q => by simp at q; subst q; exact cX)).trans (g_less hY)
  refine store_ok e₂ (r2.keep g) (by kernel_rfl!) fun h₃ t₃ c₃ e₃ => ?_
  exact h h₃ t₃ (((c₁.mono fun y q => by simp at q; simp [q]).trans (c₂.mono fun y q => by simp at q; simp [q])).trans (c₃.mono fun y q => by simp at q; simp [q])) e₃
def bb (f : Bool) (l a : Int) : D := match f with
  | true => Bs (l + a) Sy
  | false => Sy
def tt (f : Bool) (l a m : Int) : D := Pr [Nm m, Fc [bb f l a], bb f l a]
def ww (f : Bool) (l a m : Int) : D := match f with
  | true => Pr [Nm m, Fc [bb true l a], Sm [Sy, Nm (0 - (l + a) - 1)]]
  | false => Pr [Nm m, Fc [bb false l a]]
theorem law_s4 (F : Fa W) (l a m : Int) (f : Bool) (B Sc : Addr) : X1 W 30 (scopeS (stm 91)) (s3 l a m f B Sc) (lawSt 4) (.nxt ((Str.ofString "base", bb f l a) :: s3 l a m f B Sc)) := by
  cases f
  · exact law_s4f F l a m B Sc
  · exact law_s4t F l a m B Sc
theorem law_s7 (F : Fa W) (l a m : Int) (f : Bool) (B Sc : Addr) (t : D) : Ev W 30 (scopeS (stm 91)) ((Str.ofString "t", t) :: s5 l a m f B Sc (bb f l a)) (asgV (lawSt 7)) (ww f l a m) := by
  cases f
  · exact law_s7f F l a m B Sc _ t
  · exact law_s7t F l a m B Sc _ t
theorem chg_fresh {B : Addr} {Z : List Addr} {h h' : Heap} (n : h.get? B = none) (c : Chg (B :: Z) h h') : Chg Z h h' := fun b o hb eb => c b o (fun q => by
  rcases List.mem_cons.mp q with rfl | q
  · rw [n] at eb; cases eb
  · exact hb q) eb
theorem cell_chg {Z : List Addr} {h h' : Heap} {c : Addr} (x : h.IsCell c none) (k : Chg Z h h') (n : c ∉ Z) : h'.IsCell c none := let ⟨o, q, d⟩ := x; ⟨o, k _ _ n q, d⟩
theorem cell_ne {h : Heap} {c B : Addr} {v : Option Value} (x : h.IsCell c v) (n : h.get? B = none) : c ≠ B := fun q => by obtain ⟨o, e, _⟩ := x; rw [q, n] at e; cases e

theorem law_pre (F : Fa W) {A : Around} {env : PySem.Env} {s : Shared} {Sc : Addr} {svs : List Value} {zs : List Int} {Q : Flow → Shared → Prop} {E : Value → Shared → Prop} {cl ct cw P : Addr}
    (e : EnvOK W 30 (scopeS (stm 91)) A env [(Str.ofString "script", .adr Sc)] [cl, ct, cw, P, env.locals] s.heap) (nd : [cl, ct, cw, P, env.locals].Nodup)
    (sl : (G [cl, ct, cw, P, env.locals] s.heap).IsList Sc svs.toArray) (si : IntsAre svs zs) (hz : zs.length ≤ 63)
    (c1 : env.cells.lookup (Str.ofString "last") = some cl) (c2 : env.cells.lookup (Str.ofString "t") = some ct) (c3 : env.cells.lookup (Str.ofString "whole") = some cw)
    (i1 : s.heap.IsCell cl none) (i2 : s.heap.IsCell ct none) (i3 : s.heap.IsCell cw none)
    (h : ∀ l a m f h' tk' B, 1 ≤ m → m ≤ 3 → -2 ≤ l → l ≤ 5 → (a = 0 ∨ a = 3 ∨ a = 1) → Chg [env.locals, cl, ct, cw] s.heap h' → EnvOK W 30 (scopeS (stm 91)) A env (s7 l a m f B Sc (bb f l a) (tt f l a m) (ww f l a m)) [P, env.locals] h' →
      wpAny (model W.prog W.w) A (execs [lawSt 8, lawSt 9, lawSt 10] env) Q E { s with heap := h', toks := tk' }) :
    wpAny (model W.prog W.w) A (execs (bodyS (stm 91)) env) Q E s := by
  have hbody : bodyS (stm 91) = [lawSt 0, lawSt 1, lawSt 2, lawSt 3, lawSt 4, lawSt 5, lawSt 6, lawSt 7, lawSt 8, lawSt 9, lawSt 10] := by kernel_rfl!
  rw [hbody]
  simp only [List.nodup_cons, List.mem_cons, List.not_mem_nil, or_false, not_or, List.nodup_nil, and_true, not_false_eq_true] at nd
  obtain ⟨⟨n12, n13, n1P, n1L⟩, ⟨n23, n2P, n2L⟩, ⟨n3P, n3L⟩, nPL⟩ := nd
  refine wpAny_execs_cons (law_s0 F e sl si hz fun h₁ t₁ B S nB BL d₁ bx e₁ => ?_)
  have hz8 : (zs.take 8).length ≤ 64 := by simp; omega
  refine wpAny_execs_cons (law_s1 (b := 29) F hz8 rfl e₁ BL bx fun h₂ t₂ d₂ bx₂ e₂ => ?_)
  have c02 : Chg [env.locals] s.heap h₂ := chg_fresh nB ((d₁.mono fun y q => by simp at q; simp [q]).trans d₂)
  obtain ⟨r0, r1⟩ := takeV_range (zs.take 8) 3 3 (.inr (.inl rfl))
  obtain ⟨r2, r3⟩ := takeV_range (zs.take 8) 1 3 (.inr (.inl rfl))
  obtain ⟨r4, r5⟩ := takeV_range (zs.take 8) 2 8 (.inr (.inr rfl))
  obtain ⟨j, hj⟩ := Int.eq_ofNat_of_zero_le r0
  have hj3 : j < 3 := by omega
  obtain ⟨a, ha, ha'⟩ : ∃ a, [D.int 0, D.int 3, D.int 1][j]? = some (.int a) ∧ (a = 0 ∨ a = 3 ∨ a = 1) := by
    match j, hj3 with
    | 0, _ => exact ⟨0, rfl, .inl rfl⟩
    | 1, _ => exact ⟨3, rfl, .inr (.inl rfl)⟩
    | 2, _ => exact ⟨1, rfl, .inr (.inr rfl)⟩
  refine wpAny_execs_cons (law_s2 (b := 29) (Y := [ct, cw, P, env.locals]) F hz8 rfl hj ha (by omega) e₂ BL bx₂ c1 (cell_chg i1 c02 (by simpa using n1L)) (by simp) n1L (cell_ne i1 nB) (by simp) (by simp [n12, n13, n1P, n1L]) (by simp) fun h₃ t₃ d₃ e₃ => ?_)
  have c03 : Chg [env.locals, cl] s.heap h₃ := chg_fresh nB ((c02.mono fun y q => by simp at q; simp [q]).trans d₃)
  generalize hf : (takeV (zs.take 8) 0 2 == 1) = f at e₃
  generalize hm : 1 + takeV (zs.take 8) 1 3 = m at e₃
  generalize hl : takeV (zs.take 8) 2 8 - 2 = l at e₃
  refine wpAny_execs_cons ((law_s3 F l a m f B Sc).go A env _ _ _ _ e₃ fun fl h₄ t₄ d₄ o₄ => ?_)
  obtain ⟨rfl, e₄⟩ := o₄
  refine wpAny_execs_cons ((law_s4 F l a m f B Sc).go A env _ _ _ _ e₄ fun fl h₅ t₅ d₅ o₅ => ?_)
  obtain ⟨rfl, e₅⟩ := o₅
  refine wpAny_execs_cons ((law_s5 F l a m f B Sc (bb f l a)).go A env _ _ _ _ e₅ fun fl h₆ t₆ d₆ o₆ => ?_)
  obtain ⟨rfl, e₆⟩ := o₆
  have c06 : Chg [env.locals, cl] s.heap h₆ := c03.trans (((d₄.trans d₅).trans d₆).mono fun y q => by simp at q; simp [q])
  have s6 := (law_s6 F l a m f B Sc (bb f l a)).go A env _ { s with heap := h₆, toks := t₆ } (fun v s' => wpAny (model W.prog W.w) A (storeName env (Str.ofString "t") v) (fun _ s'' => wpAny (model W.prog W.w) A (execs [lawSt 7, lawSt 8, lawSt 9, lawSt 10] env) Q E s'') E s') E e₆ fun v h₇ t₇ k₇ r₇ => ?_
  · refine wpAny_execs_cons (wpAny_Assign_Name (hs := ?_) s6)
    rfl
  have c07 : Chg [env.locals, cl] s.heap h₇ := c06.trans k₇.chg
  refine cell_store (Y := [cw, P, env.locals]) (e₆.keep k₇) r₇ (by kernel_rfl!) c2 (cell_chg i2 c07 (by simp [n2L, Ne.symm n12])) (by simp) n2L (by simp) (by simp [n23, n2P, n2L]) (by simp) fun h₈ d₈ e₈ => ?_
  have c08 : Chg [env.locals, cl, ct] s.heap h₈ := (c07.mono fun y q => by simp at q; rcases q with q | q <;> simp [q]).trans (d₈.mono fun y q => by simp at q; simp [q])
  have s7' := (law_s7 F l a m f B Sc (tt f l a m)).go A env _ { s with heap := h₈, toks := t₇ } (fun v s' => wpAny (model W.prog W.w) A (storeName env (Str.ofString "whole") v) (fun _ s'' => wpAny (model W.prog W.w) A (execs [lawSt 8, lawSt 9, lawSt 10] env) Q E s'') E s') E e₈ fun v h₉ t₉ k₉ r₉ => ?_
  · refine wpAny_execs_cons (wpAny_Assign_Name (hs := ?_) s7')
    rfl
  have c09 : Chg [env.locals, cl, ct] s.heap h₉ := c08.trans k₉.chg
  refine cell_store (Y := [P, env.locals]) (e₈.keep k₉) r₉ (by kernel_rfl!) c3 (cell_chg i3 c09 (by simp [n3L, Ne.symm n13, Ne.symm n23])) (by simp) n3L (by simp) (by simp [n3P, n3L]) (by simp) fun hA dA eA => ?_
  have c0A : Chg [env.locals, cl, ct, cw] s.heap hA := (c09.mono fun y q => by simp at q; rcases q with q | q | q <;> simp [q]).trans (dA.mono fun y q => by simp at q; simp [q])
  exact h l a m f hA t₉ B (by omega) (by omega) (by omega) (by omega) ha' c0A eA
abbrev lamT (l : Int) (t w : D) : Env := [(Str.ofString "last", .int l), (Str.ofString "t", t), (Str.ofString "whole", w)]
theorem frok_one {b : Nat} {sc : Scope} {σ : Env} {A : Around} {env : PySem.Env} {X : List Addr} {h : Heap} (e : EnvOK W b sc A env σ X h) (hA : A.frames = some [env]) (hf : env.frame = some env.locals) : FrOK A X h [env] := by
  obtain ⟨m, ⟨o, es, ep, ho, hd, _⟩, _⟩ := e.loc
  exact ⟨hA, by rw [e.scope, e.kind]; decide, ⟨env.locals, o, hf, hideAll_none _ e.inX, ho, fun vs q => by rw [hd] at q; cases q⟩, trivial⟩

theorem okSc_cell' {sc : Scope} (h : sc.names.all (fun x => x.2 != .cell) = true) : ∀ y ∈ sc.names, y.2 ≠ .cell := fun y hy => by simpa using List.all_eq_true.mp h y hy
theorem law_fin {A : Around} {env : PySem.Env} {s : Shared} {Q : Flow → Shared → Prop} {E : Value → Shared → Prop} {P cc B Sc bm : Addr} {ob : Obj} {l a m : Int} {f : Bool} {base t w d : D}
    (e : EnvOK W 30 (scopeS (stm 91)) A env (s7 l a m f B Sc base t w) [P, env.locals] s.heap) (hA : A.frames = some [env]) (hf : env.frame = some env.locals) (PL : P ≠ env.locals) (hP : s.heap.get? P = some (tabObj #[])) (hcode : env.code = .ref cc) (C : CodeHd s.heap cc P)
    (b1 : W.mg "__builtins__" = some (.ref bm)) (b2 : bm ≠ builtinsNs) (b3 : bm ≠ mainGlobals) (b4 : bm ≠ P) (b5 : s.heap.get? bm = some ob) (b6 : ob.cls = .type "module") (b7 : ob.dict = some builtinsNs) (b8 : ob.data = .plain) (gP : mainGlobals ≠ P)
    (T : EvU W 20 lamP.2.1 (lamT l t w) lamP.1 d ∨ (EvR W (W.set false) 20 lamP.2.1 (lamT l t w) lamP.1 ∧ d = .str (Str.ofString "domain")))
    (hx : Xs W 30 (scopeS (stm 91)) ((Str.ofString "told", d) :: s7 l a m f B Sc base t w) [lawSt 9, lawSt 10] (.ret (.bool true)))
    (h : ∀ h' tk', Keep (G [P, env.locals] s.heap) h' → (∃ ps, h'.get? P = some (tabObj ps)) → Q (.ret (.bool true)) { s with heap := h', toks := tk' }) :
    wpAny (model W.prog W.w) A (execs [lawSt 8, lawSt 9, lawSt 10] env) Q E s := by
  obtain ⟨fa, fc, fo, fpm, fdoc, f1, f2, f3, f4⟩ := e.top.fn 89 (by decide) rfl
  have f1 : W.mg (Str.ofString "_law_told") = some (.ref fa) := f1
  refine wpAny_execs_cons (wpAny_Assign_Name (hs := rfl) (Call_ (Name_function_global (by rw [e.scope]; exact e.kind) (by show env.scope.names.lookup _ = _; rw [e.scope]; kernel_rfl!) (loadGlobal_global (mg := W.mg) (by rw [e.glob]; exact e.top.gl.keeps g_sub) f1 (callWith_def f3 (he := rfl) (wpAny_items_cons (he := rfl) ?_))) (by decide))))
  have cellOf : ∀ y, (y = Str.ofString "last" ∨ y = Str.ofString "t" ∨ y = Str.ofString "whole") → ∃ c, env.cells.lookup y = some c := fun y hy => by
    obtain ⟨mm, _, lo⟩ := e.loc
    have kk : env.kindOf y = some .cell := by
      show env.scope.names.lookup y = _
      rw [e.scope]
      rcases hy with rfl | rfl | rfl <;> kernel_rfl!
    obtain ⟨d', hd'⟩ : ∃ d', (s7 l a m f B Sc base t w).lookup y = some d' := by
      rcases hy with rfl | rfl | rfl
      · exact ⟨.int l, by kernel_rfl!⟩
      · exact ⟨t, by kernel_rfl!⟩
      · exact ⟨w, by kernel_rfl!⟩
    obtain ⟨v, _, z⟩ := lo y d' hd'
    rcases z with ⟨z, _⟩ | ⟨_, c, z, _⟩
    · rw [kk] at z; cases z
    · exact ⟨c, z⟩
  have hcl : closureFor lamP.2.1 env = pure (clo env.cells lamP.2.1.names []) := closure_is fun y hy hfree => by
    have : lamP.2.1.names.all (fun x => x.2 != .free || (x.1 == Str.ofString "last" || x.1 == Str.ofString "t" || x.1 == Str.ofString "whole")) = true := by kernel_rfl!
    have q := List.all_eq_true.mp this y hy
    rw [hfree] at q
    simp only [bne_self_eq_false, Bool.false_or, Bool.or_eq_true, beq_iff_eq] at q
    exact cellOf _ (by rcases q with (q | q) | q <;> simp [q])
  refine kla_eval (hdef := rfl) (kla_makeFunction (mg := W.mg) (clos := clo env.cells lamP.2.1.names []) hcl e.glob (e.top.gl.keeps g_sub) hcode C hP trivial rfl gP ⟨bm, ob, b1, b2, b3, b4, b5, b6, b7, b8⟩ fun c' ctv h' tk hx' hge hlt hrec htb => wpAny_items_nil ⟨?_, ?_⟩)
  · exact Heap.get?_push_of_some _ (hx' _ _ (fun q => g_not f2 (by simp [q])) (g_sub _ _ f2))
  show wpAny (model W.prog W.w) A _ _ _ { s with heap := h'.push (kla_obj (Str.ofString "<lambda>") (env.qual ++ "<lambda>") lamP.2.2.1 lamP.1 lamP.2.1 (clo env.cells lamP.2.1.names []) ((W.mg "__name__").getD .none) c' ctv), toks := tk }
  generalize hobj : kla_obj (Str.ofString "<lambda>") (env.qual ++ "<lambda>") lamP.2.2.1 lamP.1 lamP.2.1 (clo env.cells lamP.2.1.names []) ((W.mg "__name__").getD .none) c' ctv = lo
  generalize hN : h'.push lo = g
  have cP : Chg [P] s.heap g := fun b o hb eb => by rw [← hN]; exact Heap.get?_push_of_some _ (hx' b o (by simpa using hb) eb)
  have gP : g.get? P = some (tabObj (#[] ++ #[rawInt lamP.2.2.2.line, rawInt lamP.2.2.2.col, .ref c'])) := by rw [← hN]; exact Heap.get?_push_of_some _ htb
  have e1 := e.turn cP (.head _) PL ⟨_, gP⟩
  have eN := e1.shrink (Y := [env.locals]) (by simp) (by simp)
  have gg : Keep (G [P, env.locals] s.heap) (G [env.locals] g) := (g_chg (cP.mono fun y q => by simp at q; simp [q])).trans (g_less (by simp))
  obtain ⟨oL, hoL⟩ := e.has env.locals (by simp)
  have Ls : env.locals < s.heap.objs.size := Heap.lt_size hoL
  have fo1 := frok_one eN hA hf
  have hg : (G [env.locals] g).get? h'.objs.size = some lo := g_get (by rw [← hN]; exact Heap.get?_push_size _ (by rw [← hobj]; rfl)) (by
    simp only [List.mem_singleton]
    exact fun q => absurd (Nat.lt_trans (Nat.lt_of_lt_of_le Ls hge) (q ▸ hlt)) (Nat.lt_irrefl _))
  have hcd : (G [env.locals] g).CodeRec (.ref c') (env.qual ++ "<lambda>") := by
    obtain ⟨c2, oc, vs, tq, q1, q2, q3, q4⟩ := hrec
    cases q1
    refine ⟨c', oc, vs, tq, rfl, g_get (by rw [← hN]; exact Heap.get?_push_of_some _ q2) ?_, q3, q4⟩
    simp only [List.mem_singleton]
    intro q; rw [q] at hge; exact absurd Ls (Nat.not_lt.mpr hge)
  have hτ : ∀ y d, (lamT l t w).lookup y = some d → lamP.2.1.names.lookup y = some .free ∧ (y == ("__classdict__" : Str)) = false ∧ ∃ c v, (clo env.cells lamP.2.1.names []).lookup y = some c ∧ (G [env.locals] g).IsCell c (some v) ∧ RV W (G [env.locals] g) v d := fun y d' hy => by
    have three : y = Str.ofString "last" ∨ y = Str.ofString "t" ∨ y = Str.ofString "whole" := by
      simp only [lamT, List.lookup_cons, List.lookup_nil] at hy
      by_cases q1 : y = Str.ofString "last"
      · exact .inl q1
      · by_cases q2 : y = Str.ofString "t"
        · exact .inr (.inl q2)
        · by_cases q3 : y = Str.ofString "whole"
          · exact .inr (.inr q3)
          · rw [beq_eq_false_iff_ne.mpr q1, beq_eq_false_iff_ne.mpr q2, beq_eq_false_iff_ne.mpr q3] at hy; cases hy
    have hs7 : (s7 l a m f B Sc base t w).lookup y = some d' := by
      rcases three with rfl | rfl | rfl
      · rw [← hy]; kernel_rfl!
      · rw [← hy]; kernel_rfl!
      · rw [← hy]; kernel_rfl!
    have kk : env.kindOf y = some .cell := by
      show env.scope.names.lookup y = _
      rw [e.scope]
      rcases three with rfl | rfl | rfl <;> kernel_rfl!
    have fre : lamP.2.1.names.lookup y = some .free := by rcases three with rfl | rfl | rfl <;> kernel_rfl!
    have frm : (y, NameKind.free) ∈ lamP.2.1.names := mem_of_lookup fre
    obtain ⟨mm, _, lk⟩ := eN.loc
    obtain ⟨v, rv, z⟩ := lk y d' hs7
    rcases z with ⟨z, _⟩ | ⟨_, c, z, zc⟩
    · rw [kk] at z; cases z
    · exact ⟨fre, by rcases three with rfl | rfl | rfl <;> decide, c, v, clo_lookup z _ _ (.inr frm), zc, rv⟩
  -- what is told
  have fin : ∀ v h₂ t₂, Up [] [env.locals] g h₂ → RV W (G [env.locals] h₂) v d → wpAny (model W.prog W.w) A (storeName env (Str.ofString "told") v) (fun _ s₃ => wpAny (model W.prog W.w) A (execs [lawSt 9, lawSt 10] env) Q E s₃) E { s with heap := h₂, toks := t₂ } := fun v h₂ t₂ u r => by
    refine store_ok (eN.up u) r (by kernel_rfl!) fun h₃ t₃ c₃ e₃ => hx.go A env _ _ _ _ e₃ fun fl h₄ t₄ c₄ o₄ => ?_
    obtain ⟨v', rfl, r'⟩ := o₄
    cases r'
    have last : ∀ b o, (G [env.locals] g).get? b = some o → h₄.get? b = some o := fun b o q => by
      have nb : b ≠ env.locals := fun z => g_not q (by simp [z])
      exact c₄ _ _ (by simpa using nb) (c₃ _ _ (by simpa using nb) (u.keep _ _ q))
    exact h h₄ t₄ (fun b o q => last _ _ (gg _ _ q)) ⟨_, last _ _ (g_get gP (by simpa using PL))⟩
  subst hobj
  rcases T with T | ⟨T, rfl⟩
  · exact told_u (b := 21) (work_u (b := 20) (name := Str.ofString "<lambda>") hg hcd (by kernel_rfl!) (by kernel_rfl!) (by kernel_rfl!) (by kernel_rfl!) (okSc_cell' (by kernel_rfl!)) hτ T) f1 (eN.cx.less (show 22 ≤ 30 by decide)) fo1 Keep.rfl' fun v h₂ t₂ u r => fin v h₂ t₂ u r
  · exact told_r (b := 21) (work_r (b := 20) (name := Str.ofString "<lambda>") hg hcd (by kernel_rfl!) (by kernel_rfl!) (by kernel_rfl!) (by kernel_rfl!) (okSc_cell' (by kernel_rfl!)) hτ T) f1 (eN.cx.less (show 22 ≤ 30 by decide)) fo1 Keep.rfl' fun v h₂ t₂ u r => fin v h₂ t₂ u r
theorem told_t (F : Fa W) (F' : Fa (W.set false)) (hW : W.hn = true) (l a m : Int) (m0 : 1 ≤ m) (m1 : m ≤ 3) (l0 : -2 ≤ l) (l1 : l ≤ 5) (ha : a = 0 ∨ a = 3 ∨ a = 1) : EvU W 20 lamP.2.1 (lamT l (tt true l a m) (ww true l a m)) lamP.1 (Nm (0 - m * fct a)) := by
  rcases ha with rfl | rfl | rfl
  · have q := lam_s F _ _ l _ _ (behind_c F F' hW m (l + 0) l (0 - (l + 0) - 1) (by omega) (by omega) (by omega) (by omega) (by omega) (by omega) (by omega) (by omega) (by omega) (by omega))
    have e1 : l + 0 + (-1) * l = 0 := by omega
    have e2 : l + (0 - (l + 0) - 1) = -1 := by omega
    have e3 : fct 0 = 1 := rfl
    rw [e1, e2, e3] at q
    rw [e3]
    have e4 : m * 1 * (-1) + m * 1 * 0 = 0 - m * 1 := by omega
    rw [e4] at q
    exact q
  · have q := lam_u F _ _ l _ (behind_f F hW m (l + 3) l (0 - (l + 3) - 1) (tt true l 3 m) (by omega) (by omega) (by omega) (by omega) (by omega) (by omega) (by omega) (by omega) (by omega))
    have e1 : l + 3 + (-1) * (l + 1) = 2 := by omega
    have e2 : l + 1 + (0 - (l + 3) - 1) = -3 := by omega
    have e3 : fct 2 = 2 := rfl
    have e5 : fct 3 = 6 := rfl
    rw [e1, e2, e3] at q
    rw [e5]
    have e4 : m * 2 * (-3) = 0 - m * 6 := by omega
    rw [e4] at q
    exact q
  · have q := lam_u F _ _ l _ (behind_f F hW m (l + 1) l (0 - (l + 1) - 1) (tt true l 1 m) (by omega) (by omega) (by omega) (by omega) (by omega) (by omega) (by omega) (by omega) (by omega))
    have e1 : l + 1 + (-1) * (l + 1) = 0 := by omega
    have e2 : l + 1 + (0 - (l + 1) - 1) = -1 := by omega
    have e3 : fct 0 = 1 := rfl
    have e5 : fct 1 = 1 := rfl
    rw [e1, e2, e3] at q
    rw [e5]
    have e4 : m * 1 * (-1) = 0 - m * 1 := by omega
    rw [e4] at q
    exact q

theorem law_run (F : Fa W) (F' : Fa (W.set false)) (hW : W.hn = true) {A : Around} {env : PySem.Env} {s : Shared} {Sc : Addr} {svs : List Value} {zs : List Int} {Q : Flow → Shared → Prop} {E : Value → Shared → Prop} {cl ct cw P cc bm : Addr} {ob : Obj}
    (e : EnvOK W 30 (scopeS (stm 91)) A env [(Str.ofString "script", .adr Sc)] [cl, ct, cw, P, env.locals] s.heap) (nd : [cl, ct, cw, P, env.locals].Nodup) (hA : A.frames = some [env]) (hf : env.frame = some env.locals)
    (sl : (G [cl, ct, cw, P, env.locals] s.heap).IsList Sc svs.toArray) (si : IntsAre svs zs) (hz : zs.length ≤ 63)
    (c1 : env.cells.lookup (Str.ofString "last") = some cl) (c2 : env.cells.lookup (Str.ofString "t") = some ct) (c3 : env.cells.lookup (Str.ofString "whole") = some cw)
    (i1 : s.heap.IsCell cl none) (i2 : s.heap.IsCell ct none) (i3 : s.heap.IsCell cw none)
    (hP : s.heap.get? P = some (tabObj #[])) (hcode : env.code = .ref cc) (C : CodeHd (G [cl, ct, cw, P, env.locals] s.heap) cc P)
    (b1 : W.mg "__builtins__" = some (.ref bm)) (b2 : bm ≠ builtinsNs) (b5 : (G [cl, ct, cw, P, env.locals] s.heap).get? bm = some ob) (b6 : ob.cls = .type "module") (b7 : ob.dict = some builtinsNs) (b8 : ob.data = .plain)
    (h : ∀ h' tk', Keep (G [cl, ct, cw, P, env.locals] s.heap) h' → (∃ ps, h'.get? P = some (tabObj ps)) → Q (.ret (.bool true)) { s with heap := h', toks := tk' }) :
    wpAny (model W.prog W.w) A (execs (bodyS (stm 91)) env) Q E s := by
  have nd' := nd
  simp only [List.nodup_cons, List.mem_cons, List.not_mem_nil, or_false, not_or, List.nodup_nil, and_true, not_false_eq_true] at nd'
  obtain ⟨⟨n12, n13, n1P, n1L⟩, ⟨n23, n2P, n2L⟩, ⟨n3P, n3L⟩, nPL⟩ := nd'
  obtain ⟨og, es, ep, hog, hdg, _⟩ := e.top.gl
  have gP : mainGlobals ≠ P := fun q => g_not hog (by simp [q])
  have b4 : bm ≠ P := fun q => g_not b5 (by simp [q])
  have b3 : bm ≠ mainGlobals := fun q => by rw [q, hog] at b5; cases b5; rw [hdg] at b8; cases b8
  refine law_pre F e nd sl si hz c1 c2 c3 i1 i2 i3 fun l a m f h' tk' B m0 m1 l0 l1 ha c eA => ?_
  have kX : Keep (G [cl, ct, cw, P, env.locals] s.heap) h' := fun b o q => c b o (fun z => g_not q (by simp at z; rcases z with z | z | z | z <;> simp [z])) (g_sub _ _ q)
  have hP' : h'.get? P = some (tabObj #[]) := c _ _ (by simp [nPL, Ne.symm n1P, Ne.symm n2P, Ne.symm n3P]) hP
  have kG : Keep (G [cl, ct, cw, P, env.locals] s.heap) (G [P, env.locals] h') := fun b o q => g_get (kX b o q) fun z => g_not q (by simp at z; rcases z with z | z <;> simp [z])
  have im : ∀ x, IntMulOk m x := fun x => .of_left (intBits_le_64 (by omega) (by omega))
  have go : ∀ (d : D), (EvU W 20 lamP.2.1 (lamT l (tt f l a m) (ww f l a m)) lamP.1 d ∨ (EvR W (W.set false) 20 lamP.2.1 (lamT l (tt f l a m) (ww f l a m)) lamP.1 ∧ d = .str (Str.ofString "domain"))) →
      Xs W 30 (scopeS (stm 91)) ((Str.ofString "told", d) :: s7 l a m f B Sc (bb f l a) (tt f l a m) (ww f l a m)) [lawSt 9, lawSt 10] (.ret (.bool true)) → wpAny (model W.prog W.w) A (execs [lawSt 8, lawSt 9, lawSt 10] env) Q E { s with heap := h', toks := tk' } := fun d T hx =>
    law_fin eA hA hf nPL hP' hcode (C.keeps kX) b1 b2 b3 b4 (kX _ _ b5) b6 b7 b8 gP T hx fun h2 t2 k2 p2 => h h2 t2 (fun b o q => k2 _ _ (kG _ _ q)) p2
  cases f with
  | true => exact go _ (.inl (told_t F F' hW l a m m0 m1 l0 l1 ha)) (law_end_t F l a m B Sc _ _ _ (im _) (by omega) (by omega))
  | false =>
    rcases Int.lt_or_le l (-1) with q | q
    · exact go _ (.inr ⟨lam_r F _ _ l (behind_r F F' hW m l (tt false l a m) (by omega) (by omega) (by omega) q), rfl⟩) (law_end_r F l a m B Sc _ _ _ q)
    · exact go _ (.inl (lam_u F _ _ l _ (behind_n F hW m l (tt false l a m) (by omega) (by omega) q (by omega)))) (law_end_f F l a m B Sc _ _ _ (im _) q (by omega))
end
def mainEs (p : Params) : Array DictEntry := match (Kf p).lookup mainGlobals with
  | some o => (match o.data with | .dict es _ => es | _ => #[])
  | none => #[]
def nsEs (p : Params) : Array DictEntry := match (Kf p).lookup 30 with
  | some o => (match o.data with | .dict es _ => es | _ => #[])
  | none => #[]
def tokOf (p : Params) (x : String) : Tok := match nsFind (mainEs p) (Str.ofString x) with
  | some (.int _ t) => t
  | _ => 0
theorem main_at (p : Params) : ∃ o ep, (Kf p).lookup mainGlobals = some o ∧ o.data = .dict (mainEs p) ep := ⟨_, _, rfl, rfl⟩
theorem ns_at (p : Params) : ∃ o ep, (Kf p).lookup 30 = some o ∧ o.data = .dict (nsEs p) ep := ⟨_, _, rfl, rfl⟩
theorem mg_main {g : Heap} {mg : Str → Option Value} {p : Params} (n : g.Ns mainGlobals mg) (X : (Kf p).In g) (x : Str) : mg x = nsFind (mainEs p) x := by
  obtain ⟨o, es, ep, ho, hd, _, h⟩ := n
  obtain ⟨o', ep', e1, e2⟩ := main_at p
  have := X _ _ e1
  rw [ho] at this; cases this
  rw [hd] at e2; cases e2
  exact (h x).symm
theorem rec_of {v : Program} (hv : (recsOf v).map (fun d => (d.name, d.params, d.body, d.scope)) = (List.range 92).filterMap (fun k => match stm k with | .FunctionDef n a b _ _ _ sc _ _ _ => some (n, a, b, sc) | _ => none)) {k : Nat} (hk : k < 92) (hd' : (match stm k with | .FunctionDef .. => true | _ => false) = true) : ∃ d ∈ recsOf v, d.name = nameS (stm k) ∧ d.params = argsS (stm k) ∧ d.body = bodyS (stm k) ∧ d.scope = scopeS (stm k) := by
  have h : (nameS (stm k), argsS (stm k), bodyS (stm k), scopeS (stm k)) ∈ (recsOf v).map (fun d => (d.name, d.params, d.body, d.scope)) := by
    rw [hv]
    refine List.mem_filterMap.mpr ⟨k, List.mem_range.mpr hk, ?_⟩
    revert hd'
    generalize stm k = st
    intro hd'
    cases st <;> first | rfl | cases hd'
  obtain ⟨d, hd1, hd2⟩ := List.mem_map.mp h
  simp only [Prod.mk.injEq] at hd2
  exact ⟨d, hd1, hd2.1, hd2.2.1, hd2.2.2.1, hd2.2.2.2⟩

theorem k_cls (p : Params) : (Kf p).lookup 31 = some (excClassObj (Str.ofString "CasFail") (Str.ofString "CasFail") 31 30 [.type "Exception"] [.type "Exception", .type "BaseException", .type "object"] true [] [] false none none (some (.ref 15)) none (some (.str (Str.ofString "CasFail") 189)) (some (.str (Str.ofString "CasFail") 197)) (some (.bool true)) "Exception.__new__") := by kernel_rfl!
theorem k_ini (p : Params) : ∃ o pm doc, (Kf p).lookup 28 = some o ∧ o.cls = .type "function" ∧ o.data = .func (methDef (Str.ofString "__init__") (Str.ofString "CasFail.__init__") (argsS initS) (bodyS initS) (scopeS initS) pm (.ref 27) doc) := ⟨_, .str (Str.ofString "cas.errors") 187, .none, rfl, rfl, rfl⟩
theorem k_code (p : Params) : ∃ o vs t, (Kf p).lookup 27 = some o ∧ o.data = .fields vs ∧ vs[1]? = some (.str (Str.ofString "CasFail.__init__") t) := ⟨_, _, 202, rfl, rfl, rfl⟩
theorem k_keys (p : Params) : StrKeys (nsEs p) := by
  have h : (nsEs p).toList.all (fun e => match e.key with | .str _ _ => true | _ => false) = true := by kernel_rfl!
  intro e he
  have q := List.all_eq_true.mp h e (by simpa using he)
  split at q
  · rename_i n t hk; exact ⟨n, t, hk⟩
  · cases q
theorem k_none (p : Params) : ∀ n ∈ (["__setattr__", "kind", "text", "__getattribute__", "__getattr__"] : List String).map Str.ofString, nsFind (nsEs p) n = none := by
  intro n hn
  simp only [List.map, List.mem_cons, List.not_mem_nil, or_false] at hn
  rcases hn with rfl | rfl | rfl | rfl | rfl <;> kernel_rfl!

theorem cf_of {W : Wd} {g : Heap} {p : Params} (X : (Kf p).In g) (n : g.Ns mainGlobals W.mg) : CfAt W g := by
  obtain ⟨o, pm, doc, q1, q2, q3⟩ := k_ini p
  obtain ⟨oc, vs, t, r1, r2, r3⟩ := k_code p
  obtain ⟨on, ep, s1, s2⟩ := ns_at p
  exact ⟨31, 30, nsFind (nsEs p), _, 28, o, pm, doc, 27, (mg_main n X _).trans (by kernel_rfl!), X _ _ (k_cls p), ⟨_, _, _, _, _, _, _, _, _, _, _, _, rfl⟩, ⟨on, nsEs p, ep, X _ _ s1, s2, k_keys p, fun _ => rfl⟩, by kernel_rfl!, k_none p, X _ _ q1, q2, q3, ⟨27, oc, vs, t, rfl, X _ _ r1, r2, r3⟩⟩

theorem fa_of {W : Wd} {p : Params} (K : W.K = fun a => (Kf p).lookup a) (m : ∀ x, W.mg x = nsFind (mainEs p) x) : Fa W := by
  have tup : ∀ (x : String) (a : Addr) (i : Int) (t0 t1 t2 : Tok), nsFind (mainEs p) (Str.ofString x) = some (.ref a) → (Kf p).lookup a = some { cls := .type "tuple", data := .seq #[.str (Str.ofString "num") t0, .int i t1, .int 1 t2] } → Con W (Str.ofString x) (.tup [.str (Str.ofString "num"), .int i, .int 1]) := fun x a i t0 t1 t2 h1 h2 g tp =>
    ⟨.ref a, (m _).trans h1, .tup (vs := [.str (Str.ofString "num") t0, .int i t1, .int 1 t2]) ⟨0, tp.fr a _ (by rw [K]; exact h2)⟩ (.cons (.str _ _) (.cons (.int _ _) (.cons (.int _ _) .nil)))⟩
  have num : ∀ (x : String) (i : Int), nsFind (mainEs p) (Str.ofString x) = some (.int i (tokOf p x)) → Con W (Str.ofString x) (.int i) := fun x i h g tp => ⟨_, (m _).trans h, .int _ _⟩
  refine ⟨fun x hx => ?_, tup "ONE" 266 1 547 548 549 (by kernel_rfl!) (by kernel_rfl!), tup "ZERO" 265 0 543 544 545 (by kernel_rfl!) (by kernel_rfl!), tup "T_ONE" 106 1 317 318 319 (by kernel_rfl!) (by kernel_rfl!), num _ _ (by kernel_rfl!), num _ _ (by kernel_rfl!), num _ _ (by kernel_rfl!), num _ _ (by kernel_rfl!), num _ _ (by kernel_rfl!), num _ _ (by kernel_rfl!)⟩
  rw [m]
  simp only [List.map, List.mem_cons, List.not_mem_nil, or_false] at hx
  rcases hx with rfl | rfl | rfl | rfl | rfl | rfl | rfl <;> kernel_rfl!
theorem core {prog p v : Program} {w : World} {s1 h₁ : Heap} {mg mb m' : Str → Option Value} {loose loose' : List Str} {mean mean' : ExcName → Option Value} {o0 o1 o2 : Obj} {Sc fa : Addr} {svs : List Value} {zs : List Int} {nm : Str} {scope : Scope} {body : List Stmt} {s : Shared} {Q : Flow → Shared → Prop} {E : Value → Shared → Prop}
    (hv : (recsOf v).map (fun d => (d.name, d.params, d.body, d.scope)) = (List.range 92).filterMap (fun k => match stm k with | .FunctionDef n a b _ _ _ sc _ _ _ => some (n, a, b, sc) | _ => none)) (T0 : Top v loose mean mg mb s1) (hT8 : ∀ P ∈ [477], s1.get? P = some (tabObj #[])) (X' : (Kf w.params).In (G [477] s1)) (T' : Top p loose' mean' mg mb (G [477] s1))
    (F0 : Fr (G [477] s1) s1.objs.size h₁ m') (N' : News (G [477] s1) s1.objs.size h₁ [(s1.objs.size + 1 + 1 + 1, o2), (s1.objs.size + 1 + 1, o1), (s1.objs.size + 1, o0), (477, tabObj #[])])
    (d2 : o2.data = .cell none) (d1 : o1.data = .cell none) (d0 : o0.data = .cell none) (hcode : CodeHd (G [477] s1) 481 477) (l0 : 477 < s1.objs.size)
    (sl : (G [477] s1).IsList Sc svs.toArray) (si : IntsAre svs zs) (hz : ¬ (63 : Int) < zs.length) (hm : m' (Str.ofString "script") = some (.ref Sc)) (hsc : scope = scopeS (stm 91)) (hb : body = bodyS (stm 91)) (hs : s.heap = h₁)
    (h : ∀ h' tk', Keep (G [477] s1) h' → (∃ ps, h'.get? 477 = some (tabObj ps)) → Q (.ret (.bool true)) { s with heap := h', toks := tk' }) :
    wpAny (model prog w) (callerA.deeper (envOfC nm scope s1.objs.size fa (.ref 481))) (execs body (envOfC nm scope s1.objs.size fa (.ref 481))) Q E s := by
  subst hsc hb hs
  generalize hL : s1.objs.size = L at *
  have t477 := hT8 477 (by simp)
  let W : Wd := ⟨prog, w, mg, mb, true, fun a => (Kf w.params).lookup a⟩
  have top : TopOK W (G [477] s1) := by
    refine ⟨T'.g, T'.b, T'.nolimit, fun k hk hd' => ?_, fun x _ hx => T'.builtins x hx, cf_of X' T'.g, X'⟩
    obtain ⟨d, hd1, hd2, hd3, hd4, hd5⟩ := rec_of hv hk hd'
    obtain ⟨a, o, pm, code, doc, q1, q2, q3, c, oc, vs, t, rfl, q5, q6, q7⟩ := T0.fn d hd1
    rw [hd2, hd3, hd4, hd5] at q3
    rw [hd2] at q1 q7
    refine ⟨a, c, o, pm, doc, q1, g_get q2 (fun z => ?_), q3, c, oc, vs, t, rfl, g_get q5 (fun z => ?_), q6, q7⟩
    · simp at z; subst z; rw [t477] at q2; cases q2; cases q3
    · simp at z; subst z; rw [t477] at q5; cases q5; cases q6; simp at q7
  have F : Fa W := fa_of (p := w.params) rfl (fun x => mg_main T'.g X' x)
  have F' : Fa (W.set false) := fa_hn false F
  obtain ⟨bm, ob, b1, b2, b5, b6, b7, b8⟩ := T'.bmain
  have n3 := N' _ (.head _)
  have n2 := N' _ (.tail _ (.head _))
  have n1 := N' _ (.tail _ (.tail _ (.head _)))
  have nP := N' _ (.tail _ (.tail _ (.tail _ (.head _))))
  have gL : (G [477] s1).get? L = none := Heap.get?_none_of_le F0.above
  have kg : Keep (G [477] s1) (G [L + 1, L + 1 + 1, L + 1 + 1 + 1, 477, L] s.heap) := fun b o q => g_get (F0.keep _ _ q) fun z => by
    simp only [List.mem_cons, List.not_mem_nil, or_false] at z
    rcases z with rfl | rfl | rfl | rfl | rfl
    · rw [n1.2.2] at q; cases q
    · rw [n2.2.2] at q; cases q
    · rw [n3.2.2] at q; cases q
    · rw [nP.2.2] at q; cases q
    · rw [gL] at q; cases q
  have e : EnvOK W 30 (scopeS (stm 91)) (callerA.deeper (envOfC nm (scopeS (stm 91)) L fa (.ref 481))) (envOfC nm (scopeS (stm 91)) L fa (.ref 481)) [(Str.ofString "script", .adr Sc)] [L + 1, L + 1 + 1, L + 1 + 1 + 1, 477, L] s.heap := by
    refine ⟨rfl, by kernel_rfl!, rfl, rfl, ⟨?_, ?_⟩, by simp [envOfC], fun y hy => ?_, top.keep kg, .inl rfl, m', F0.ns, fun y d hy => ?_⟩
    · show callerA.depth + 1 + 30 ≤ 600; decide
    · show callerA.units + 3 + 20 * 30 ≤ 9000; decide
    · simp only [List.mem_cons, List.not_mem_nil, or_false] at hy
      rcases hy with rfl | rfl | rfl | rfl | rfl
      · exact ⟨_, n1.1⟩
      · exact ⟨_, n2.1⟩
      · exact ⟨_, n3.1⟩
      · exact ⟨_, nP.1⟩
      · obtain ⟨o, _, _, ho, _⟩ := F0.ns; exact ⟨o, ho⟩
    · rw [List.lookup_cons] at hy
      cases hb : y == Str.ofString "script" with
      | false => rw [hb] at hy; cases hy
      | true =>
        rw [hb] at hy; cases hy
        rw [beq_iff_eq.mp hb]
        exact ⟨_, .adr Sc, .inl ⟨by show (scopeS (stm 91)).names.lookup _ = _; kernel_rfl!, hm⟩⟩
  have nd : [L + 1, L + 1 + 1, L + 1 + 1 + 1, 477, L].Nodup := by
    simp only [List.nodup_cons, List.mem_cons, List.not_mem_nil, or_false, not_or, List.nodup_nil, and_true, not_false_eq_true]
    omega
  have cells : ∀ x c, (cellsFrom (L + 1) (scopeS (stm 91)).names []).lookup x = some c → (envOfC nm (scopeS (stm 91)) L fa (.ref 481)).cells.lookup x = some c := fun x c q => q
  refine law_run (W := W) F F' rfl (cl := L + 1) (ct := L + 1 + 1) (cw := L + 1 + 1 + 1) (P := 477) (cc := 481) (bm := bm) (ob := ob) (zs := zs) (svs := svs) (Sc := Sc) e nd rfl rfl (let ⟨o, q1, q2⟩ := sl; ⟨o, kg _ _ q1, q2⟩) si (by omega)
    (cells _ _ rfl) (cells _ _ rfl) (cells _ _ rfl) ⟨o0, n1.1, d0⟩ ⟨o1, n2.1, d1⟩ ⟨o2, n3.1, d2⟩ nP.1 rfl (hcode.keeps kg) b1 b2 (kg _ _ b5) b6 b7 b8 fun h' tk' k p => h h' tk' (fun b o q => k _ _ (kg _ _ q)) p
/-! These names are taken so that the head lays no second form of its large parts: the compiled file stays small. -/
def top.tw16900427199656544559 : Unit := ()
def top.tw1139600151236580504 : Unit := ()
def top.tw10996937224433265937 : Unit := ()
def top.tw16104615914030681952 : Unit := ()
def top.tw18186074749648716422 : Unit := ()
def top.tw18085771088847121727 : Unit := ()
def top.tw705360758644809490 : Unit := ()
def top.tw8107780213005350392 : Unit := ()
def top.tw8657480035899644758 : Unit := ()
def top.tw3969286963782609292 : Unit := ()
def top.tw9272544492142499777 : Unit := ()
def top.tw2478416152958980475 : Unit := ()
def top.tw8237333600419904120 : Unit := ()
def top.tw9437893007894698314 : Unit := ()
def top.tw10005945817407372193 : Unit := ()
def top.tw10915162052029792233 : Unit := ()
def top.tw17810072253543177317 : Unit := ()
def top.tw7444641836354208208 : Unit := ()
def top.tw6859976401760118174 : Unit := ()
def top.tw18289109515434150305 : Unit := ()
def top.tw14402358008270493973 : Unit := ()
def top.tw14371913498598963198 : Unit := ()
def top.tw14917401599646851644 : Unit := ()
def top.tw10773188271377071773 : Unit := ()
def top.tw12415523145999629524 : Unit := ()
def top.tw15177526630643400193 : Unit := ()
def top.tw9962302188120564619 : Unit := ()
def top.tw14823308797102314842 : Unit := ()
def top.tw2822501910515967889 : Unit := ()
def top.tw17244936779566465919 : Unit := ()
def top.tw10657950659306570408 : Unit := ()
def top.tw17355269125676882429 : Unit := ()
def top.tw2220570432770164149 : Unit := ()
def top.tw7671549972530922468 : Unit := ()
def top.tw1284575025550258836 : Unit := ()
def top.tw15569959144833144457 : Unit := ()
def top.tw14168018189251442112 : Unit := ()
def top.tw14372152842798730730 : Unit := ()
def top.tw1516213087968936877 : Unit := ()
def top.tw8148004212497801138 : Unit := ()
def top.tw13369591340354186047 : Unit := ()
def top.tw2377541652452675900 : Unit := ()
def top.tw987869383939708018 : Unit := ()
def top.tw17620759639134147866 : Unit := ()
def top.tw3254097082911018636 : Unit := ()
def top.tw7740461459972228597 : Unit := ()
def top.tw8640399195822439974 : Unit := ()
def top.tw5118827330378232414 : Unit := ()
def top.tw12094960947251128927 : Unit := ()
def top.tw14263998999751124003 : Unit := ()
def top.tw7990429038631628895 : Unit := ()
def top.tw13501252493785611398 : Unit := ()
def top.tw339143206060000330 : Unit := ()
def top.tw6662652255960138227 : Unit := ()
def top.tw1212798325632107971 : Unit := ()
def top.tw12317137736924338119 : Unit := ()
def top.tw5667650583090716360 : Unit := ()
def top.tw16054190913257422852 : Unit := ()
def top.tw17470836177267949868 : Unit := ()
def top.tw15245507539482535896 : Unit := ()
def top.tw17046948494117081484 : Unit := ()
def top.tw17219337458794519322 : Unit := ()
def top.tw4655869559712951663 : Unit := ()
def top.tw12080426169559351053 : Unit := ()
def top.tw16666122058527598403 : Unit := ()
def top.tw17492772389151264855 : Unit := ()
def top.tw2617719716777270872 : Unit := ()
def top.tw1706793611546318481 : Unit := ()
def top.tw14724332232928298890 : Unit := ()
def top.tw17503535016915526970 : Unit := ()
def top.tw13896958669275611876 : Unit := ()
def top.tw13091174067606910046 : Unit := ()
def top.tw4498253355057717688 : Unit := ()
def top.tw10617020205504526918 : Unit := ()
def top.tw53344730913325255 : Unit := ()
def top.tw6749217079512962374 : Unit := ()
def top.tw6572447435987645144 : Unit := ()
def top.tw5915399644114372684 : Unit := ()
def top.tw14399976873020721970 : Unit := ()
def top.tw15361541807878343388 : Unit := ()
def top.tw16713831800681072344 : Unit := ()
def top.tw16597617366809209970 : Unit := ()
def top.tw7743179893348639699 : Unit := ()
def top.tw14747140909534839006 : Unit := ()
def top.tw4828031223510198475 : Unit := ()
def top.tw16795567611416646642 : Unit := ()
def top.tw15878805988109762761 : Unit := ()
def top.tw3712731000106771831 : Unit := ()
def top.tw708234853630380328 : Unit := ()
def top.tw1047907039808853306 : Unit := ()
def top.tw956942650209027819 : Unit := ()
def top.tw5058314954733539658 : Unit := ()
def top.tw9919435345466941130 : Unit := ()
def top.tw8973803690348224638 : Unit := ()
def top.tw18194552166560175392 : Unit := ()
def top.tw8443935842833279946 : Unit := ()
def top.tw8204474986945543665 : Unit := ()
def top.tw13272337422414781067 : Unit := ()
def top.tw4551080515912023512 : Unit := ()
def top.tw8813761850579938390 : Unit := ()
def top.tw16453443671601555132 : Unit := ()
def top.tw427269002284569659 : Unit := ()
def top.tw594810645892935528 : Unit := ()
def top.tw10987319290404115282 : Unit := ()
def top.tw2249405535684624136 : Unit := ()
def top.tw7715697345341360870 : Unit := ()
def top.tw13370750898655102155 : Unit := ()
def top.tw2007660962349395123 : Unit := ()
def top.tw14851680436948445374 : Unit := ()
def top.tw11133666699803404755 : Unit := ()
def top.tw10956490626425055710 : Unit := ()
def top.tw12622177474791663080 : Unit := ()
def top.tw16878204669230926818 : Unit := ()
def top.tw15362295582089109014 : Unit := ()
def top.tw13420762306968818387 : Unit := ()
def top.tw104434173382791472 : Unit := ()
def top.tw5088376156974544275 : Unit := ()
def top.tw2514443458684651071 : Unit := ()
def top.tw6761616313442571491 : Unit := ()
def top.tw5225916559131626549 : Unit := ()
def top.tw8679839319945467846 : Unit := ()
def top.tw16885616592811714743 : Unit := ()
def top.tw12425085872883035938 : Unit := ()
def top.tw6885214360128481674 : Unit := ()
def top.tw16550210197400561554 : Unit := ()
def top.tw9229161468869434483 : Unit := ()
def top.tw6430265229019958763 : Unit := ()
def top.tw2506305409684761478 : Unit := ()
def top.tw7557910624720293991 : Unit := ()
def top.tw11199710921928265848 : Unit := ()
def top.tw2665807947273092163 : Unit := ()
def top.tw453181688931711583 : Unit := ()
def top.tw2847958352784047137 : Unit := ()
def top.tw1601500998369573665 : Unit := ()
def top.tw7429413206186439793 : Unit := ()
def top.tw15740088241188596515 : Unit := ()
def top.tw2835187731363253809 : Unit := ()
def top.tw6906291655842520137 : Unit := ()
def top.tw8140125068956082859 : Unit := ()
def top.tw7600245330811189008 : Unit := ()
def top.tw649594095290182367 : Unit := ()
def top.tw6925360484601817757 : Unit := ()
def top.tw17177869089781658578 : Unit := ()
def top.tw1886144042066472794 : Unit := ()
def top.tw6187478851450931391 : Unit := ()
def top.tw4835499133494076262 : Unit := ()
def top.tw17565814175750979855 : Unit := ()
def top.tw9951221954081769418 : Unit := ()
def top.tw1275901062530889299 : Unit := ()
def top.tw2741389259953327712 : Unit := ()
def top.tw14861896470697024400 : Unit := ()
def top.tw1833847959688406909 : Unit := ()
def top.tw1483126911874232274 : Unit := ()
def top.tw6491118196486620199 : Unit := ()
def top.tw4859757453598101857 : Unit := ()
def top.tw4047667213573674445 : Unit := ()
def top.tw8598144960395782539 : Unit := ()
def top.tw2812155379371279736 : Unit := ()
def top.tw8735323631387419056 : Unit := ()
def top.tw9503340733035011235 : Unit := ()
def top.tw2464713573024523455 : Unit := ()
def top.tw17342085116792181814 : Unit := ()
def top.tw352232786441526191 : Unit := ()
def top.tw8321918168302905379 : Unit := ()
def top.tw11199532085631943738 : Unit := ()
def top.tw2121648611389393487 : Unit := ()
def top.tw7458633546980236471 : Unit := ()
def top.tw1195175773429642966 : Unit := ()
def top.tw10478281044441265007 : Unit := ()
def top.tw11928406713670361882 : Unit := ()
def top.tw2683898200743741643 : Unit := ()
def top.tw5278709424875269971 : Unit := ()
def top.tw13134186033006778460 : Unit := ()
def top.tw1843344800811705456 : Unit := ()
def top.tw10567129059001840431 : Unit := ()
def top.tw14826035006057030972 : Unit := ()
def top.tw1638113669730673903 : Unit := ()
def top.tw17469865338272021226 : Unit := ()
def top.tw15860264024139754761 : Unit := ()
def top.tw13710211086531791108 : Unit := ()
def top.tw14338676059091966482 : Unit := ()
def top.tw1294077662247117797 : Unit := ()
def top.tw8689318265317240412 : Unit := ()
def top.tw1869187583165140508 : Unit := ()
def top.tw16926593981545840131 : Unit := ()
def top.tw9059832203979395877 : Unit := ()
def top.tw5581607755468803823 : Unit := ()
def top.tw620129878449983639 : Unit := ()
def top.tw12535971307161669396 : Unit := ()
def top.tw7250933059871147345 : Unit := ()
def top.tw16439428074185983240 : Unit := ()
def top.tw9614876229902214918 : Unit := ()
def top.tw13983857475226248213 : Unit := ()
def top.tw146815374380898660 : Unit := ()
def top.tw3474246075231452896 : Unit := ()
def top.tw18237780215024852062 : Unit := ()
def top.tw2312856594315299383 : Unit := ()
def top.tw16782997733028217545 : Unit := ()
def top.tw13822267516522204269 : Unit := ()
def top.tw2126296398998916975 : Unit := ()
def top.tw2931480414775070079 : Unit := ()
def top.tw5889316905344633881 : Unit := ()
def top.tw13068111086705522682 : Unit := ()
def top.tw15092371282622821202 : Unit := ()
def top.tw16123964013534891561 : Unit := ()
def top.tw11520865232209809239 : Unit := ()
def top.tw16273406610938067001 : Unit := ()
def top.tw15058813355848621054 : Unit := ()
def top.tw7855079511596107753 : Unit := ()
def top.tw12385144161495827662 : Unit := ()
def top.tw12166907935582030026 : Unit := ()
def top.tw7115824082346440616 : Unit := ()
def top.tw14502225709538309166 : Unit := ()
def top.tw13303987763403120937 : Unit := ()
def top.tw9739860059890490050 : Unit := ()
def top.tw13307591127769906961 : Unit := ()
def top.tw8472579005086612782 : Unit := ()
def top.tw3337584539547039419 : Unit := ()
def top.tw3855276242980373810 : Unit := ()
def top.tw17089494485692210459 : Unit := ()
def top.tw17315540178315561739 : Unit := ()
def top.tw7673058066778466091 : Unit := ()
def top.tw2555065506035805374 : Unit := ()
def top.tw13160728816969591200 : Unit := ()
def top.tw13889309363888878346 : Unit := ()
def top.tw12483720753089274532 : Unit := ()
def top.tw5244899138074338376 : Unit := ()
def top.tw12105128591322288922 : Unit := ()
def top.tw9108098604805947806 : Unit := ()
def top.tw14597223018079223185 : Unit := ()
def top.tw10648311167861321448 : Unit := ()
def top.tw15646934709686841381 : Unit := ()
def top.tw6664487174759623829 : Unit := ()
def top.tw6487610083215253720 : Unit := ()
def top.tw6286779285267259847 : Unit := ()
def top.tw6333448901615975916 : Unit := ()
def top.tw9759319705405543751 : Unit := ()
def top.tw16840627104734473223 : Unit := ()
def top.tw6898770573198911631 : Unit := ()
def top.tw11279390925490393535 : Unit := ()
def top.tw14459580976405569124 : Unit := ()
def top.tw11466170419677230873 : Unit := ()
def top.tw7386116660499605909 : Unit := ()
def top.tw1142415686869020238 : Unit := ()
def top.tw6473336682457920079 : Unit := ()
def top.tw13345470168829271861 : Unit := ()
def top.tw814325599930780420 : Unit := ()
def top.tw1696336161484641427 : Unit := ()
def top.tw7198060816514059695 : Unit := ()
def top.tw16325430554902658873 : Unit := ()
def top.tw9166809390415177425 : Unit := ()
def top.tw1676862907878916244 : Unit := ()
def top.tw6176384092110617959 : Unit := ()
def top.tw76412952228603488 : Unit := ()
def top.tw16821654228018055803 : Unit := ()
def top.tw17486766287000646611 : Unit := ()
def top.tw8729362747519067210 : Unit := ()
def top.tw16654080153379151800 : Unit := ()
def top.tw2581206410525282061 : Unit := ()
def top.tw5476889619067714990 : Unit := ()
def top.tw1149218181149386328 : Unit := ()
def top.tw9768079942903668216 : Unit := ()
def top.tw9743097575036673082 : Unit := ()
def top.tw8538268897159353584 : Unit := ()
def top.tw11762496359356365647 : Unit := ()
def top.tw5938664839603501006 : Unit := ()
def top.tw14762295962024373759 : Unit := ()
def top.tw12787338502077490372 : Unit := ()
def top.tw9631074621892390191 : Unit := ()
def top.tw9589608677651300831 : Unit := ()
def top.tw6211089042160764376 : Unit := ()
def top.tw10090393231696489298 : Unit := ()
def top.tw7847650389618582240 : Unit := ()
def top.tw16420938139371093754 : Unit := ()
def top.tw5225153198818245361 : Unit := ()
def top.tw14349089067433371257 : Unit := ()
def top.tw16800595933775061595 : Unit := ()
def top.tw16759092144687519636 : Unit := ()
def top.tw13928562000808390012 : Unit := ()
def top.tw10404823597219466188 : Unit := ()
def top.tw864819663365544661 : Unit := ()
def top.tw4321519831107876412 : Unit := ()
def top.tw2462062305354472974 : Unit := ()
def top.tw3591360186894285507 : Unit := ()
def top.tw13290321428070320777 : Unit := ()
def top.tw72247145696351765 : Unit := ()
def top.tw8184561461823581802 : Unit := ()
def top.tw18177719399980262173 : Unit := ()
def top.tw15985961358823992270 : Unit := ()
def top.tw8435561252592420358 : Unit := ()
def top.tw877433047237710547 : Unit := ()
def top.tw370947364307004932 : Unit := ()
def top.tw2758071753971750899 : Unit := ()
def top.tw1124271682379634556 : Unit := ()
def top.tw5303079699428457377 : Unit := ()
def top.tw8622502720953521162 : Unit := ()
def top.tw8410488445778877200 : Unit := ()
def top.tw11459358961799972967 : Unit := ()
def top.tw17542608870123051758 : Unit := ()
def top.tw795583310449317561 : Unit := ()
def top.tw1040915598704419856 : Unit := ()
def top.tw9442318146202087700 : Unit := ()
def top.tw3422688185749166683 : Unit := ()
def top.tw4076138812419527698 : Unit := ()
def top.tw8345894832289464959 : Unit := ()
def top.tw13120753694373217308 : Unit := ()
def top.tw16155163154822807229 : Unit := ()
def top.tw216529984938456764 : Unit := ()
def top.tw17150878257433057509 : Unit := ()
def top.tw4526881389914513428 : Unit := ()
def top.tw4656485037274611717 : Unit := ()
def top.tw16196420915677631385 : Unit := ()
def top.tw2057334267981633021 : Unit := ()
def top.tw12643491718579748851 : Unit := ()
def top.tw5523086135645875356 : Unit := ()
def top.tw1088946173253831356 : Unit := ()
def top.tw12427389293880184781 : Unit := ()
def top.tw14608685727046917156 : Unit := ()
def top.tw15169761463676818070 : Unit := ()
def top.tw11858546649754279707 : Unit := ()
def top.tw3315250197877816394 : Unit := ()
def top.tw4159251561096739476 : Unit := ()
def top.tw775762912060472103 : Unit := ()
def top.tw105208000716104510 : Unit := ()
def top.tw17953984050398360512 : Unit := ()
def top.tw4299629679881509495 : Unit := ()
def top.tw11582926029173025856 : Unit := ()
def top.tw11334203419191126389 : Unit := ()
def top.tw3976154599441133093 : Unit := ()
def top.tw3561193834555079511 : Unit := ()
def top.tw4597200072644226624 : Unit := ()
def top.tw9366391650621772374 : Unit := ()
def top.tw9063741608606530840 : Unit := ()
def top.tw4784893810139332661 : Unit := ()
def top.tw1754339480302792767 : Unit := ()
def top.tw4671429814451907529 : Unit := ()
def top.tw4213018616267185653 : Unit := ()
def top.tw1732150942055357024 : Unit := ()
def top.tw15918733279669447828 : Unit := ()
def top.tw908825868028484722 : Unit := ()
def top.tw8507776931139520737 : Unit := ()
def top.tw16174758807025615021 : Unit := ()
def top.tw9068506458530023791 : Unit := ()
def top.tw2287823674025257028 : Unit := ()
def top.tw6127594578889010139 : Unit := ()
def top.tw14796646475526232899 : Unit := ()
def top.tw4571971715460732019 : Unit := ()
def top.tw10864713392326063847 : Unit := ()
def top.tw1814787853859245837 : Unit := ()
def top.tw15254643099363442306 : Unit := ()
def top.tw728428047077509346 : Unit := ()
def top.tw14282377253939248939 : Unit := ()
def top.tw13044034144603486326 : Unit := ()
def top.tw8810280945414196856 : Unit := ()
def top.tw12819366960792805191 : Unit := ()
def top.tw18063644159110109576 : Unit := ()
def top.tw517144808224063464 : Unit := ()
def top.tw12958502747184954254 : Unit := ()
def top.tw14987219478266130788 : Unit := ()
def top.tw11334350811105764591 : Unit := ()
def top.tw10448899703829047738 : Unit := ()
def top.tw15503665604740900718 : Unit := ()
def top.tw16044733080236030384 : Unit := ()
def top.tw10548783162686979305 : Unit := ()
def top.tw1788138344755669473 : Unit := ()
def top.tw14142502885225118848 : Unit := ()
def top.tw575894324575664597 : Unit := ()
def top.tw1291508964198565346 : Unit := ()
def top.tw13326734554550294991 : Unit := ()
def top.tw13090165191389475591 : Unit := ()
def top.tw16580785732701462914 : Unit := ()
def top.tw2731995056826638727 : Unit := ()
def top.tw2145171640123136144 : Unit := ()
def top.tw6812286434817487243 : Unit := ()
def top.tw3195968871104189447 : Unit := ()
def top.tw944164533710043270 : Unit := ()
def top.tw11203750815551599093 : Unit := ()
def top.tw2732273902793177162 : Unit := ()
def top.tw17886615442053742456 : Unit := ()
def top.tw12540527436937284434 : Unit := ()
def top.tw8363718466572441477 : Unit := ()
def top.tw1585457916280141200 : Unit := ()
def top.tw11922380849998532372 : Unit := ()
def top.tw9259421805112917234 : Unit := ()
def top.tw3730354652608582461 : Unit := ()
def top.tw16352630495959832749 : Unit := ()
def top.tw14697636140705633519 : Unit := ()
def top.tw10008474027749305400 : Unit := ()
def top.tw13001836021917841797 : Unit := ()
def top.tw17428532607074087071 : Unit := ()
def top.tw7313339093194340965 : Unit := ()
def top.tw17795014544551873601 : Unit := ()
def top.tw13889484949932952446 : Unit := ()
def top.tw9195894827357321740 : Unit := ()
def top.tw18371284783138465269 : Unit := ()
def top.tw342308947776675178 : Unit := ()
def top.tw6919701780365589675 : Unit := ()
def top.tw9382581127745807760 : Unit := ()
def top.tw3195522803047326042 : Unit := ()
def top.tw12342655685612074800 : Unit := ()
def top.tw11443710868159068359 : Unit := ()
def top.tw6189502492464219833 : Unit := ()
def top.tw5969682004907312646 : Unit := ()
def top.tw9800703332001039478 : Unit := ()
def top.tw2907113945770861938 : Unit := ()
def top.tw6883741973766446791 : Unit := ()
def top.tw9851269098105209369 : Unit := ()
def top.tw7204493036743257322 : Unit := ()
def top.tw6438537300738474071 : Unit := ()
def top.tw8311017846404947139 : Unit := ()
def top.tw9953747333497923681 : Unit := ()
def top.tw1108800333578037850 : Unit := ()
def top.tw10006222313960134694 : Unit := ()
def top.tw1492452104121835379 : Unit := ()
def top.tw283044589724301 : Unit := ()
def top.tw1245559373397905713 : Unit := ()
def top.tw16058212318047004132 : Unit := ()
def top.tw18008055252877512497 : Unit := ()
def top.tw4713442408853163898 : Unit := ()
def top.tw1617357707322924660 : Unit := ()
def top.tw6370870915552960936 : Unit := ()
def top.tw8143265674769528471 : Unit := ()
def top.tw18245740138792012028 : Unit := ()
def top.tw501154541418245514 : Unit := ()
def top.tw6042063481754889096 : Unit := ()
def top.tw2218668502564051296 : Unit := ()
def top.tw4166218997396506358 : Unit := ()
def top.tw1736530178072539846 : Unit := ()
def top.tw12718909917080609646 : Unit := ()
def top.tw8523463495250067690 : Unit := ()
def top.tw3261557481417251176 : Unit := ()
def top.tw11334415319851112604 : Unit := ()
def top.tw17555251805378815213 : Unit := ()
set_option Elab.async true in
theorem top : PySem.Challenge.rw_rh0039_01.Holds := by
  w_on
  o_law
  o_head (kmHook Kf [3, 27, 28, 30, 31, 106, 265, 266, 481, 482] (fun _ => by kernel_rfl) [477])
  case hw => w_witness2
  w_strict (
    k_go0
    rename (Top topProg _ _ _ _ _) => T1
    rename (Top _ _ _ _ _ (Shared.heap _)) => T0
    rename (Fr _ _ _ _) => F1
    rename (News _ _ _ _) => N1
    rename (Frag.In _ _) => X1
    rename (∀ P ∈ [477], _) => hT8
    rename (IntsAre _ _) => hI
    rename (¬ ((63 : Nat) : Int) < _) => hz
    rename ((477 : Nat) < _) => l0
    refine core (w := _) ?_ T0 hT8 X1 T1 F1 N1 ?_ ?_ ?_ codeHd l0 lifted hI hz ?_ ?_ ?_ ?_ ?_
    · kernel_rfl!
    · exact Eq.trans (b := Data.cell _) (by assumption) (congrArg Data.cell (by kernel_rfl!))
    · exact Eq.trans (b := Data.cell _) (by assumption) (congrArg Data.cell (by kernel_rfl!))
    · exact Eq.trans (b := Data.cell _) (by assumption) (congrArg Data.cell (by kernel_rfl!))
    · kernel_rfl!
    · kernel_rfl!
    · kernel_rfl!
    · rfl
    · intro h' tk' kp pp
      refine ⟨⟨.inl ⟨.bool true, .bool true, [], rfl, fun _ => rfl, .bool true, by kernel_rfl!, fun _ => ⟨.nil, fun _ hh => by cases hh⟩⟩, kp, rfl, ?_⟩, ⟨pp, trivial⟩⟩
      assumption)
end Mine

theorem PySem.Challenge.cw_rh0039_01_holds : PySem.Challenge.rw_rh0039_01.Holds :=
  Mine.top
