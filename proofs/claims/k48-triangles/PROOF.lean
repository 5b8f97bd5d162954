import PyProof.Rows.All
import Wide.All
import OpenK.AllK
import Wide.FinOn
import HandS.Words
import KE.KStateDown
import Lean
import HandS.Defaults
import HandS.More
import HandS.Head0
import HandS.Head1
import HandS.Head2
import HandS.HeadEnd
import HandS.HeadHook1
import HandS.HeadHook2
import HandS.HeadHook3
import HandS.HeadHook4
import HandS.HeadWalk
import HandS.ForMost
import HandS.Walk
import HandS.Style
import HandS.Deep
import HandS.Lambda
import HandS.Property
import KE.KDictKeyed
import KE.KeyNested
import KE.SortData
import KE.SortKeyHeap
import HandS.IsInst
import HandS.Dict
import HandS.Comp
import KE.KEqDict
import KE.KDictCopyH
import KE.KDictSum
import KE.GoesNew
import KE.GoesMore
import HandS.Iter
import HandS.DictComp
import HandS.TupSets
import HandS.SortKw
import KE.KDictWalk
import PySem.Challenge.RW_cornerplane_k48_whole_triangles_have_one
set_option Elab.async false
set_option linter.all false
set_option maxRecDepth 100000
section
namespace Cp
open PySem PySem.Spec PyProof.Rows L2
def top (i : Nat) : Stmt := PySem.Challenge.pw_cornerplane_k48_whole_triangles_have_one.main.body.getD i (.Pass ⟨0, 0, 0, 0⟩)
abbrev s_closed_walk : Stmt := top 7
abbrev s_steps_of : Stmt := top 8
abbrev s_without_zeros : Stmt := top 9
abbrev s_net_steps : Stmt := top 10
abbrev s_cell_numbers : Stmt := top 11
abbrev s_windings : Stmt := top 12
abbrev s_last_common : Stmt := top 14
abbrev s_common_of_three : Stmt := top 15
abbrev s_inner_corners : Stmt := top 16
abbrev s_Triangle_init : Stmt := inClass (top 17) 0
abbrev s_Triangle_contains : Stmt := inClass (top 17) 1
abbrev s_Triangle_area : Stmt := inClass (top 17) 2
abbrev s_corners_of : Stmt := top 21
abbrev s_on_board : Stmt := top 22
abbrev s_rising_pairs : Stmt := top 23
abbrev s_falling_pairs : Stmt := top 24
abbrev s_pairs_of : Stmt := top 25
abbrev s_steps_between : Stmt := top 26
abbrev s_pairs_by_steps : Stmt := top 27
abbrev s_steep_letter : Stmt := top 28
abbrev s_moved : Stmt := top 29
abbrev s_has_table_form : Stmt := top 31
abbrev s_letters_by_pair : Stmt := top 32
abbrev s_first_letter : Stmt := top 33
abbrev s_before : Stmt := top 34
abbrev s_last_letters : Stmt := top 35
abbrev s_find_broken_pair : Stmt := top 36
abbrev s_Plane_init : Stmt := inClass (top 38) 0
abbrev s_Plane_letter : Stmt := inClass (top 38) 1
abbrev s_Plane_walked : Stmt := inClass (top 38) 2
abbrev s_Plane_line : Stmt := inClass (top 38) 3
abbrev s_law_cell : Stmt := top 40
abbrev s_law_draws : Stmt := top 41
abbrev s_law_board : Stmt := top 42
abbrev s_law_all_corners : Stmt := top 43
abbrev s_law_all_cells : Stmt := top 44
abbrev s_law_moved : Stmt := top 45
abbrev s_law_letter : Stmt := top 46
abbrev s_law_walk : Stmt := top 47
abbrev s_law_line : Stmt := top 48
abbrev s_law_pairs : Stmt := top 49
abbrev s_law_texts : Stmt := top 50
abbrev s_law_bits : Stmt := top 51
abbrev s_law_fill : Stmt := top 52
abbrev s_law_chain_walk : Stmt := top 53
abbrev s_law_winds : Stmt := top 54
abbrev s_law_is_integer : Stmt := top 55
abbrev s_law_is_corner : Stmt := top 56
abbrev s_law_is_path : Stmt := top 57
abbrev s_law_any_board : Stmt := top 58
abbrev s_law_east : Stmt := top 59
abbrev s_law_ends : Stmt := top 60
abbrev s_law_knee : Stmt := top 61
abbrev s_law_is_inside : Stmt := top 62
abbrev s_law_has_double : Stmt := top 63
abbrev s_law_has_one_sign : Stmt := top 64
abbrev s_law_is_triangle : Stmt := top 65
abbrev s_law : Stmt := top 66
end Cp
end
section
set_option maxHeartbeats 0
namespace Cp
open PySem PySem.Spec PyProof.Rows L2

def d_closed_walk : He.DefD := ⟨("closed_walk", none), "closed_walk", "closed_walk", defArgs s_closed_walk, defBody s_closed_walk, defScope s_closed_walk, [], []⟩
def d_steps_of : He.DefD := ⟨("steps_of", none), "steps_of", "steps_of", defArgs s_steps_of, defBody s_steps_of, defScope s_steps_of, [], []⟩
def d_without_zeros : He.DefD := ⟨("without_zeros", none), "without_zeros", "without_zeros", defArgs s_without_zeros, defBody s_without_zeros, defScope s_without_zeros, [], []⟩
def d_net_steps : He.DefD := ⟨("net_steps", none), "net_steps", "net_steps", defArgs s_net_steps, defBody s_net_steps, defScope s_net_steps, [], []⟩
def d_cell_numbers : He.DefD := ⟨("cell_numbers", none), "cell_numbers", "cell_numbers", defArgs s_cell_numbers, defBody s_cell_numbers, defScope s_cell_numbers, [], []⟩
def d_windings : He.DefD := ⟨("windings", none), "windings", "windings", defArgs s_windings, defBody s_windings, defScope s_windings, [], []⟩
def d_last_common : He.DefD := ⟨("last_common", none), "last_common", "last_common", defArgs s_last_common, defBody s_last_common, defScope s_last_common, [], []⟩
def d_common_of_three : He.DefD := ⟨("common_of_three", none), "common_of_three", "common_of_three", defArgs s_common_of_three, defBody s_common_of_three, defScope s_common_of_three, [], []⟩
def d_inner_corners : He.DefD := ⟨("inner_corners", none), "inner_corners", "inner_corners", defArgs s_inner_corners, defBody s_inner_corners, defScope s_inner_corners, [], []⟩
def d_Triangle_init : He.DefD := ⟨("Triangle", some "__init__"), "__init__", "Triangle.__init__", defArgs s_Triangle_init, defBody s_Triangle_init, defScope s_Triangle_init, [], []⟩
def d_Triangle_contains : He.DefD := ⟨("Triangle", some "__contains__"), "__contains__", "Triangle.__contains__", defArgs s_Triangle_contains, defBody s_Triangle_contains, defScope s_Triangle_contains, [], []⟩
def d_corners_of : He.DefD := ⟨("corners_of", none), "corners_of", "corners_of", defArgs s_corners_of, defBody s_corners_of, defScope s_corners_of, [], []⟩
def d_on_board : He.DefD := ⟨("on_board", none), "on_board", "on_board", defArgs s_on_board, defBody s_on_board, defScope s_on_board, [], []⟩
def d_rising_pairs : He.DefD := ⟨("rising_pairs", none), "rising_pairs", "rising_pairs", defArgs s_rising_pairs, defBody s_rising_pairs, defScope s_rising_pairs, [], []⟩
def d_falling_pairs : He.DefD := ⟨("falling_pairs", none), "falling_pairs", "falling_pairs", defArgs s_falling_pairs, defBody s_falling_pairs, defScope s_falling_pairs, [], []⟩
def d_pairs_of : He.DefD := ⟨("pairs_of", none), "pairs_of", "pairs_of", defArgs s_pairs_of, defBody s_pairs_of, defScope s_pairs_of, [], []⟩
def d_steps_between : He.DefD := ⟨("steps_between", none), "steps_between", "steps_between", defArgs s_steps_between, defBody s_steps_between, defScope s_steps_between, [], []⟩
def d_pairs_by_steps : He.DefD := ⟨("pairs_by_steps", none), "pairs_by_steps", "pairs_by_steps", defArgs s_pairs_by_steps, defBody s_pairs_by_steps, defScope s_pairs_by_steps, [], []⟩
def d_steep_letter : He.DefD := ⟨("steep_letter", none), "steep_letter", "steep_letter", defArgs s_steep_letter, defBody s_steep_letter, defScope s_steep_letter, [], []⟩
def d_moved : He.DefD := ⟨("moved", none), "moved", "moved", defArgs s_moved, defBody s_moved, defScope s_moved, [], []⟩
def d_has_table_form : He.DefD := ⟨("has_table_form", none), "has_table_form", "has_table_form", defArgs s_has_table_form, defBody s_has_table_form, defScope s_has_table_form, [], []⟩
def d_letters_by_pair : He.DefD := ⟨("letters_by_pair", none), "letters_by_pair", "letters_by_pair", defArgs s_letters_by_pair, defBody s_letters_by_pair, defScope s_letters_by_pair, [], []⟩
def d_first_letter : He.DefD := ⟨("first_letter", none), "first_letter", "first_letter", defArgs s_first_letter, defBody s_first_letter, defScope s_first_letter, [], []⟩
def d_before : He.DefD := ⟨("before", none), "before", "before", defArgs s_before, defBody s_before, defScope s_before, [], []⟩
def d_last_letters : He.DefD := ⟨("last_letters", none), "last_letters", "last_letters", defArgs s_last_letters, defBody s_last_letters, defScope s_last_letters, [], []⟩
def d_find_broken_pair : He.DefD := ⟨("find_broken_pair", none), "find_broken_pair", "find_broken_pair", defArgs s_find_broken_pair, defBody s_find_broken_pair, defScope s_find_broken_pair, [], []⟩
def d_Plane_init : He.DefD := ⟨("Plane", some "__init__"), "__init__", "Plane.__init__", defArgs s_Plane_init, defBody s_Plane_init, defScope s_Plane_init, [], []⟩
def d_Plane_letter : He.DefD := ⟨("Plane", some "letter"), "letter", "Plane.letter", defArgs s_Plane_letter, defBody s_Plane_letter, defScope s_Plane_letter, [], []⟩
def d_Plane_walked : He.DefD := ⟨("Plane", some "walked"), "walked", "Plane.walked", defArgs s_Plane_walked, defBody s_Plane_walked, defScope s_Plane_walked, [], []⟩
def d_Plane_line : He.DefD := ⟨("Plane", some "line"), "line", "Plane.line", defArgs s_Plane_line, defBody s_Plane_line, defScope s_Plane_line, [], []⟩
def d_law_cell : He.DefD := ⟨("_law_cell", none), "_law_cell", "_law_cell", defArgs s_law_cell, defBody s_law_cell, defScope s_law_cell, [], []⟩
def d_law_draws : He.DefD := ⟨("_law_draws", none), "_law_draws", "_law_draws", defArgs s_law_draws, defBody s_law_draws, defScope s_law_draws, [], []⟩
def d_law_board : He.DefD := ⟨("_law_board", none), "_law_board", "_law_board", defArgs s_law_board, defBody s_law_board, defScope s_law_board, [], []⟩
def d_law_all_corners : He.DefD := ⟨("_law_all_corners", none), "_law_all_corners", "_law_all_corners", defArgs s_law_all_corners, defBody s_law_all_corners, defScope s_law_all_corners, [], []⟩
def d_law_all_cells : He.DefD := ⟨("_law_all_cells", none), "_law_all_cells", "_law_all_cells", defArgs s_law_all_cells, defBody s_law_all_cells, defScope s_law_all_cells, [], []⟩
def d_law_moved : He.DefD := ⟨("_law_moved", none), "_law_moved", "_law_moved", defArgs s_law_moved, defBody s_law_moved, defScope s_law_moved, [], []⟩
def d_law_letter : He.DefD := ⟨("_law_letter", none), "_law_letter", "_law_letter", defArgs s_law_letter, defBody s_law_letter, defScope s_law_letter, [], []⟩
def d_law_walk : He.DefD := ⟨("_law_walk", none), "_law_walk", "_law_walk", defArgs s_law_walk, defBody s_law_walk, defScope s_law_walk, [], []⟩
def d_law_line : He.DefD := ⟨("_law_line", none), "_law_line", "_law_line", defArgs s_law_line, defBody s_law_line, defScope s_law_line, [], []⟩
def d_law_pairs : He.DefD := ⟨("_law_pairs", none), "_law_pairs", "_law_pairs", defArgs s_law_pairs, defBody s_law_pairs, defScope s_law_pairs, [], []⟩
def d_law_texts : He.DefD := ⟨("_law_texts", none), "_law_texts", "_law_texts", defArgs s_law_texts, defBody s_law_texts, defScope s_law_texts, [], []⟩
def d_law_bits : He.DefD := ⟨("_law_bits", none), "_law_bits", "_law_bits", defArgs s_law_bits, defBody s_law_bits, defScope s_law_bits, [], []⟩
def d_law_fill : He.DefD := ⟨("_law_fill", none), "_law_fill", "_law_fill", defArgs s_law_fill, defBody s_law_fill, defScope s_law_fill, [], []⟩
def d_law_chain_walk : He.DefD := ⟨("_law_chain_walk", none), "_law_chain_walk", "_law_chain_walk", defArgs s_law_chain_walk, defBody s_law_chain_walk, defScope s_law_chain_walk, [], []⟩
def d_law_winds : He.DefD := ⟨("_law_winds", none), "_law_winds", "_law_winds", defArgs s_law_winds, defBody s_law_winds, defScope s_law_winds, [], []⟩
def d_law_is_integer : He.DefD := ⟨("_law_is_integer", none), "_law_is_integer", "_law_is_integer", defArgs s_law_is_integer, defBody s_law_is_integer, defScope s_law_is_integer, [], []⟩
def d_law_is_corner : He.DefD := ⟨("_law_is_corner", none), "_law_is_corner", "_law_is_corner", defArgs s_law_is_corner, defBody s_law_is_corner, defScope s_law_is_corner, [], []⟩
def d_law_is_path : He.DefD := ⟨("_law_is_path", none), "_law_is_path", "_law_is_path", defArgs s_law_is_path, defBody s_law_is_path, defScope s_law_is_path, [], []⟩
def d_law_any_board : He.DefD := ⟨("_law_any_board", none), "_law_any_board", "_law_any_board", defArgs s_law_any_board, defBody s_law_any_board, defScope s_law_any_board, [], []⟩
def d_law_east : He.DefD := ⟨("_law_east", none), "_law_east", "_law_east", defArgs s_law_east, defBody s_law_east, defScope s_law_east, [], []⟩
def d_law_ends : He.DefD := ⟨("_law_ends", none), "_law_ends", "_law_ends", defArgs s_law_ends, defBody s_law_ends, defScope s_law_ends, [], []⟩
def d_law_knee : He.DefD := ⟨("_law_knee", none), "_law_knee", "_law_knee", defArgs s_law_knee, defBody s_law_knee, defScope s_law_knee, [], []⟩
def d_law_is_inside : He.DefD := ⟨("_law_is_inside", none), "_law_is_inside", "_law_is_inside", defArgs s_law_is_inside, defBody s_law_is_inside, defScope s_law_is_inside, [], []⟩
def d_law_has_double : He.DefD := ⟨("_law_has_double", none), "_law_has_double", "_law_has_double", defArgs s_law_has_double, defBody s_law_has_double, defScope s_law_has_double, [], []⟩
def d_law_has_one_sign : He.DefD := ⟨("_law_has_one_sign", none), "_law_has_one_sign", "_law_has_one_sign", defArgs s_law_has_one_sign, defBody s_law_has_one_sign, defScope s_law_has_one_sign, [], []⟩
def d_law_is_triangle : He.DefD := ⟨("_law_is_triangle", none), "_law_is_triangle", "_law_is_triangle", defArgs s_law_is_triangle, defBody s_law_is_triangle, defScope s_law_is_triangle, [], []⟩
def d_law : He.DefD := ⟨("law", none), "law", "law", defArgs s_law, defBody s_law, defScope s_law, [], []⟩
def fn : List He.DefD := [d_closed_walk, d_steps_of, d_without_zeros, d_net_steps, d_cell_numbers, d_windings, d_last_common, d_common_of_three, d_inner_corners, d_Triangle_init, d_Triangle_contains, d_corners_of, d_on_board, d_rising_pairs, d_falling_pairs, d_pairs_of, d_steps_between, d_pairs_by_steps, d_steep_letter, d_moved, d_has_table_form, d_letters_by_pair, d_first_letter, d_before, d_last_letters, d_find_broken_pair, d_Plane_init, d_Plane_letter, d_Plane_walked, d_Plane_line, d_law_cell, d_law_draws, d_law_board, d_law_all_corners, d_law_all_cells, d_law_moved, d_law_letter, d_law_walk, d_law_line, d_law_pairs, d_law_texts, d_law_bits, d_law_fill, d_law_chain_walk, d_law_winds, d_law_is_integer, d_law_is_corner, d_law_is_path, d_law_any_board, d_law_east, d_law_ends, d_law_knee, d_law_is_inside, d_law_has_double, d_law_has_one_sign, d_law_is_triangle, d_law]
def fa : List He.Fa := [.glo "closed_walk", .glo "steps_of", .glo "without_zeros", .glo "net_steps", .glo "cell_numbers", .glo "windings", .glo "last_common", .glo "common_of_three", .glo "inner_corners", .glo "corners_of", .glo "on_board", .glo "rising_pairs", .glo "falling_pairs", .glo "pairs_of", .glo "steps_between", .glo "pairs_by_steps", .glo "steep_letter", .glo "moved", .glo "has_table_form", .glo "letters_by_pair", .glo "first_letter", .glo "before", .glo "last_letters", .glo "find_broken_pair", .glo "_law_cell", .glo "_law_draws", .glo "_law_board", .glo "_law_all_corners", .glo "_law_all_cells", .glo "_law_moved", .glo "_law_letter", .glo "_law_walk", .glo "_law_line", .glo "_law_pairs", .glo "_law_texts", .glo "_law_bits", .glo "_law_fill", .glo "_law_chain_walk", .glo "_law_winds", .glo "_law_is_integer", .glo "_law_is_corner", .glo "_law_is_path", .glo "_law_any_board", .glo "_law_east", .glo "_law_ends", .glo "_law_knee", .glo "_law_is_inside", .glo "_law_has_double", .glo "_law_has_one_sign", .glo "_law_is_triangle", .glo "law", .glo "Triangle", .glo "Plane", .free "len", .free "abs", .free "int", .free "bool", .free "min", .free "range", .free "list", .free "tuple", .free "enumerate", .free "sorted", .free "zip", .free "set", .free "isinstance", .str "RISING" "rising", .str "FALLING" "falling", .cls "Triangle", .cls "Plane", .mkr "Triangle", .mkr "Plane", .meth "Plane" "letter", .meth "Plane" "walked", .meth "Plane" "line", .meth "Triangle" "__contains__", .noat "Plane" "board", .noat "Plane" "rising", .noat "Plane" "falling", .noat "Plane" "letters", .noat "Triangle" "ends", .noat "Triangle" "knees", .noat "Triangle" "meeting", .noat "Triangle" "sign", .noat "Triangle" "cells", .noat "Triangle" "corners"]
def loose0 : List Str := ["_wall", "__name__", "PlaneError", "OffBoard", "BadTable", "BrokenTable", "closed_walk", "steps_of", "without_zeros", "net_steps", "cell_numbers", "windings", "last_common", "common_of_three", "inner_corners", "Triangle"]
def loose1 : List Str := ["RISING", "FALLING", "corners_of", "on_board", "rising_pairs", "falling_pairs", "pairs_of", "steps_between", "pairs_by_steps", "steep_letter", "moved", "has_table_form", "letters_by_pair", "first_letter", "before", "last_letters"]
def loose2 : List Str := ["find_broken_pair", "Plane", "_law_cell", "_law_draws", "_law_board", "_law_all_corners", "_law_all_cells", "_law_moved", "_law_letter", "_law_walk", "_law_line", "_law_pairs", "_law_texts", "_law_bits", "_law_fill", "_law_chain_walk"]
def loose3 : List Str := ["_law_winds", "_law_is_integer", "_law_is_corner", "_law_is_path", "_law_any_board", "_law_east", "_law_ends", "_law_knee", "_law_is_inside", "_law_has_double", "_law_has_one_sign", "_law_is_triangle"]
def loose : List Str := loose0 ++ (loose1 ++ (loose2 ++ (loose3)))

/-! ### the property of the triangle -/
/-- the property's object, its getter -/
def pAd (K : PySem.W.Frag) : Addr := match PySem.W.findIn K (.ref (He.ga K "Triangle")) "area" with
  | some (some (.ref p)) => p
  | _ => 0
def gAd (K : PySem.W.Frag) : Addr := match PySem.W.recIn K (pAd K) "property" with
  | some (.ref g :: _) => g
  | _ => 0
def isG : Option (List Value) → Bool
  | some (.ref _ :: _) => true
  | _ => false
def gOk (K : PySem.W.Frag) : Bool := match K.lookup (gAd K) with
  | some ⟨_, _, .func fd, _⟩ => PySem.W.codeIn K fd.code "Triangle.area" && (He.dflB K fd.defaults [] && He.kwdB K fd.kwdefaults [])
  | _ => false
def propB (K : PySem.W.Frag) : Bool := He.eqO (PySem.W.findIn K (.ref (He.ga K "Triangle")) "area") (some (some (.ref (pAd K)))) && (He.eqO (PySem.W.specialIn K (.ref (pAd K)) "__get__") (some (some (.builtin "property.__get__"))) &&
  (decide (PySem.W.takesIn K (.ref (pAd K)) = some true) && (isG (PySem.W.recIn K (pAd K) "property") && (PySem.W.keepIn K (.ref (gAd K)) && gOk K))))
def fnA (K : PySem.W.Frag) (a : Addr) : He.FnW := match K.lookup a with
  | some ⟨_, _, .func fd, _⟩ => some (fd.name, fd.qualname, fd.params, fd.body, fd.scope, fd.globals, fd.closure, fd.builtins)
  | _ => none
def gVal : He.FnW := some ("area", "Triangle.area", defArgs s_Triangle_area, .stmts (defBody s_Triangle_area), defScope s_Triangle_area, mainGlobals, [], builtinsNs)
/-! ### the Hook -/
abbrev R : PySem.W.OpenRow := PySem.W.OpenLaw.row PySem.Challenge.rw_cornerplane_k48_whole_triangles_have_one
def tf : List He.Defn := [("pairs_by_steps", none)]
abbrev AlA : Type := He.AlX × He.FnW
def obA (g : Addr → Option Obj) : AlA := (He.obsX 5 fa fn [] tf propB g, fnA (He.frT g (He.asD g 5)) (gAd (He.frT g (He.asD g 5))))
def hk : PySem.W.Hook where
  α := AlA
  obs := fun s => obA s.heap.get?
  val := fun w => (He.valX fn [] w, gVal)
  says := fun w h => ∃ K : PySem.W.Frag, K.In h ∧ He.SaysX fa fn [] tf propB w h K ∧ fnA K (gAd K) = gVal
  of := fun w s e => ⟨_, He.frT_in, He.saysX_of (congrArg (fun z : AlA => z.1) e), congrArg (fun z : AlA => z.2) e⟩
  keeps := fun _ _ _ ⟨K, hK, c, e⟩ k => ⟨K, PySem.W.Frag.In.keeps hK k, ⟨c.t, c.more, c.hd, c.out, fun p hp => k _ _ (c.empty p hp)⟩, e⟩
def ob (s : PySem.W.SharedT) : AlA := obA (HandSHeadRun.getT s)
theorem ob_eq (s : PySem.W.SharedT) : ob s = hk.obs s.abs := by
  have e : HandSHeadRun.getT s = s.abs.heap.get? := funext fun a => HandSHeadRun.getT_eq s a
  unfold ob
  rw [e]
  rfl
theorem run (w : World) : HandSHeadRun.RunEq R (PySem.W.view R.prog [66]) hk ob 4000 loose w := by
  intro os
  kernel_rfl
end Cp
end
section
/-! Paths on the grid, walks of a table, consistent tables. Plain Lean. -/
set_option autoImplicit false
namespace Tri

abbrev Co := Int × Int
inductive L | E | N | S
  deriving DecidableEq

def mv (c : Co) : L → Co
  | .E => (c.1 + 1, c.2)
  | .N => (c.1, c.2 + 1)
  | .S => (c.1, c.2 - 1)
/-- the first letter from p to q, p west of q or in its column -/
def fl (t : Co → Co → L) (p q : Co) : L :=
  if p.2 = q.2 then .E else if p.1 = q.1 then (if p.2 < q.2 then .N else .S) else t p q
def walk (t : Co → Co → L) : Nat → Co → Co → List Co
  | 0, p, _ => [p]
  | n + 1, p, q => if p = q then [p] else p :: walk t n (mv p (fl t p q)) q
def dist (p q : Co) : Nat := (p.1 - q.1).natAbs + (p.2 - q.2).natAbs
def wk (t : Co → Co → L) (p q : Co) : List Co := walk t (dist p q) p q

/-- a path with steps east and (0, s), from p to q -/
inductive Path (s : Int) : Co → Co → List Co → Prop
  | one (p : Co) : Path s p p [p]
  | east {p q : Co} {l : List Co} : Path s (p.1 + 1, p.2) q l → Path s p q (p :: l)
  | steep {p q : Co} {l : List Co} : Path s (p.1, p.2 + s) q l → Path s p q (p :: l)

/-- p to q lies in the half s -/
def Half (s : Int) (p q : Co) : Prop := p.1 ≤ q.1 ∧ 0 ≤ s * (q.2 - p.2)
/-- the steps' letters are those of the half -/
def steepL (p q : Co) : L := if p.2 < q.2 then .N else .S
def GoodAt (t : Co → Co → L) (p q : Co) : Prop := t p q = .E ∨ t p q = steepL p q

theorem Path.ne_nil {s : Int} {p q : Co} {l : List Co} (h : Path s p q l) : l ≠ [] := by
  cases h <;> simp
theorem Path.head {s : Int} {p q : Co} {l : List Co} (h : Path s p q l) : ∃ r, l = p :: r := by
  cases h with
  | one => exact ⟨[], rfl⟩
  | east h => exact ⟨_, rfl⟩
  | steep h => exact ⟨_, rfl⟩
theorem Path.mem_start {s : Int} {p q : Co} {l : List Co} (h : Path s p q l) : p ∈ l := by
  obtain ⟨r, rfl⟩ := h.head
  simp
theorem Path.mem_end {s : Int} {p q : Co} {l : List Co} (h : Path s p q l) : q ∈ l := by
  induction h with
  | one => simp
  | east _ ih => simp [ih]
  | steep _ ih => simp [ih]
theorem Path.bounds {s : Int} (hs : s = 1 ∨ s = -1) {p q : Co} {l : List Co} (h : Path s p q l) :
    ∀ z ∈ l, p.1 ≤ z.1 ∧ z.1 ≤ q.1 ∧ s * p.2 ≤ s * z.2 ∧ s * z.2 ≤ s * q.2 := by
  have e : s * s = 1 := by rcases hs with rfl | rfl <;> decide
  induction h with
  | one p => intro z hz; simp at hz; subst hz; omega
  | @east p q l h ih =>
    intro z hz
    have h0 := ih _ h.mem_end
    rcases List.mem_cons.mp hz with rfl | hz
    · simp only at h0; omega
    · have := ih z hz; simp only at this; omega
  | @steep p q l h ih =>
    intro z hz
    have h0 := ih _ h.mem_end
    simp only [Int.mul_add, e] at h0 ih
    rcases List.mem_cons.mp hz with rfl | hz
    · omega
    · have := ih z hz; omega
theorem Path.half {s : Int} (hs : s = 1 ∨ s = -1) {p q : Co} {l : List Co} (h : Path s p q l) : Half s p q := by
  have := h.bounds hs q h.mem_end
  unfold Half
  rw [Int.mul_sub]; omega
/-- two corners of a path compare -/
theorem Path.comp {s : Int} (hs : s = 1 ∨ s = -1) {p q : Co} {l : List Co} (h : Path s p q l) :
    ∀ z ∈ l, ∀ y ∈ l, (z.1 ≤ y.1 ∧ s * z.2 ≤ s * y.2) ∨ (y.1 ≤ z.1 ∧ s * y.2 ≤ s * z.2) := by
  have e : s * s = 1 := by rcases hs with rfl | rfl <;> decide
  induction h with
  | one p => intro z hz y hy; simp at hz hy; subst hz; subst hy; omega
  | @east p q l h ih =>
    intro z hz y hy
    have hb := h.bounds hs
    simp only at hb
    rcases List.mem_cons.mp hz with rfl | hz
    · rcases List.mem_cons.mp hy with rfl | hy
      · omega
      · have := hb y hy; omega
    · rcases List.mem_cons.mp hy with e2 | hy
      · have := hb z hz; rw [e2]; omega
      · exact ih z hz y hy
  | @steep p q l h ih =>
    intro z hz y hy
    have hb := h.bounds hs
    simp only [Int.mul_add, e] at hb
    rcases List.mem_cons.mp hz with rfl | hz
    · rcases List.mem_cons.mp hy with rfl | hy
      · omega
      · have := hb y hy; omega
    · rcases List.mem_cons.mp hy with e2 | hy
      · have := hb z hz; rw [e2]; omega
      · exact ih z hz y hy
/-- the corners of one row are an interval -/
theorem Path.row {s : Int} (hs : s = 1 ∨ s = -1) {p q : Co} {l : List Co} (h : Path s p q l) :
    ∀ x1 x2 x y : Int, (x1, y) ∈ l → (x2, y) ∈ l → x1 ≤ x → x ≤ x2 → (x, y) ∈ l := by
  have e : s * s = 1 := by rcases hs with rfl | rfl <;> decide
  induction h with
  | one p =>
    intro x1 x2 x y h1 h2 a b
    simp at h1 h2
    have : x = p.1 := by have := congrArg Prod.fst h1; have := congrArg Prod.fst h2; simp at *; omega
    have : y = p.2 := by have := congrArg Prod.snd h1; simpa using this
    subst_vars; simp
  | @east p q l h ih =>
    intro x1 x2 x y h1 h2 a b
    have hb := h.bounds hs
    simp only at hb
    rcases List.mem_cons.mp h1 with e1 | h1
    · have e1a : x1 = p.1 := congrArg Prod.fst e1
      have e1b : y = p.2 := congrArg Prod.snd e1
      by_cases hx : x = p.1
      · have : (x, y) = p := by rw [hx, e1b]
        simp [this]
      · rcases List.mem_cons.mp h2 with e2 | h2
        · have e2a : x2 = p.1 := congrArg Prod.fst e2
          omega
        · have hm := h.mem_start
          rw [← e1b] at hm
          exact List.mem_cons_of_mem _ (ih (p.1 + 1) x2 x y hm h2 (by omega) b)
    · rcases List.mem_cons.mp h2 with e2 | h2
      · have e2a : x2 = p.1 := congrArg Prod.fst e2
        have := hb _ h1
        simp only at this
        omega
      · exact List.mem_cons_of_mem _ (ih x1 x2 x y h1 h2 a b)
  | @steep p q l h ih =>
    intro x1 x2 x y h1 h2 a b
    have hb := h.bounds hs
    simp only [Int.mul_add, e] at hb
    rcases List.mem_cons.mp h1 with e1 | h1
    · have e1a : x1 = p.1 := congrArg Prod.fst e1
      have e1b : y = p.2 := congrArg Prod.snd e1
      rcases List.mem_cons.mp h2 with e2 | h2
      · have e2a : x2 = p.1 := congrArg Prod.fst e2
        have : (x, y) = p := by
          have : x = p.1 := by omega
          rw [this, e1b]
        simp [this]
      · have := hb _ h2
        simp only [e1b] at this
        omega
    · rcases List.mem_cons.mp h2 with e2 | h2
      · have e2b : y = p.2 := congrArg Prod.snd e2
        have := hb _ h1
        simp only [e2b] at this
        omega
      · exact List.mem_cons_of_mem _ (ih x1 x2 x y h1 h2 a b)

/-! ### steps counted for a cell -/
/-- what the step from a to b counts for the cell z -/
def om (a b z : Co) : Int := if a.1 = b.1 ∧ z.1 < a.1 ∧ min a.2 b.2 = z.2 then b.2 - a.2 else 0
def W : List Co → Co → Int
  | a :: b :: l, z => om a b z + W (b :: l) z
  | _, _ => 0
theorem om_neg (a b z : Co) : om b a z = - om a b z := by
  unfold om
  by_cases h : a.1 = b.1
  · rw [Int.min_comm b.2 a.2, h]
    split
    · omega
    · rfl
  · rw [if_neg (fun q => h q.1.symm), if_neg (fun q => h q.1)]; rfl
theorem W_app (c : Co) (l2 : List Co) (z : Co) : ∀ l1 : List Co, W (l1 ++ c :: l2) z = W (l1 ++ [c]) z + W (c :: l2) z
  | [] => by simp [W]
  | [a] => by simp [W]
  | a :: b :: l1 => by
    have ih := W_app c l2 z (b :: l1)
    simp only [List.cons_append, W] at ih ⊢
    omega
theorem W_rev (z : Co) : ∀ l : List Co, W l.reverse z = - W l z
  | [] => by simp [W]
  | [a] => by simp [W]
  | a :: b :: l => by
    have ih := W_rev z (b :: l)
    rw [List.reverse_cons, List.reverse_cons, List.append_assoc]
    show W (l.reverse ++ b :: [a]) z = _
    rw [W_app]
    rw [List.reverse_cons] at ih
    rw [ih]
    simp only [W, om_neg a b z]
    omega
/-- a path crosses each band between its ends just once -/
theorem Path.cross {s : Int} (hs : s = 1 ∨ s = -1) {p q : Co} {l : List Co} (h : Path s p q l) (y : Int)
    (h1 : min p.2 q.2 ≤ y) (h2 : y < max p.2 q.2) :
    ∃ x0, (x0, y) ∈ l ∧ (x0, y + 1) ∈ l ∧ ∀ x, W l (x, y) = if x < x0 then s else 0 := by
  have e : s * s = 1 := by rcases hs with rfl | rfl <;> decide
  induction h with
  | one p => omega
  | @east p q l h ih =>
    obtain ⟨x0, a, b, c⟩ := ih h1 h2
    refine ⟨x0, List.mem_cons_of_mem _ a, List.mem_cons_of_mem _ b, fun x => ?_⟩
    obtain ⟨r, rfl⟩ := h.head
    rw [← c x]
    simp only [W]
    have : om p (p.1 + 1, p.2) (x, y) = 0 := by
      unfold om; rw [if_neg]; simp only; omega
    omega
  | @steep p q l h ih =>
    have hb := h.bounds hs _ h.mem_end
    simp only [Int.mul_add, e] at hb
    by_cases hy : min p.2 (p.2 + s) = y
    · refine ⟨p.1, ?_, ?_, fun x => ?_⟩
      · rcases hs with rfl | rfl
        · have : (p.1, y) = p := by rw [show y = p.2 by omega]
          simp [this]
        · have hm := h.mem_start
          have : (p.1, y) = (p.1, p.2 + -1) := by rw [show y = p.2 + -1 by omega]
          rw [this]; exact List.mem_cons_of_mem _ hm
      · rcases hs with rfl | rfl
        · have hm := h.mem_start
          have : (p.1, y + 1) = (p.1, p.2 + 1) := by rw [show y = p.2 by omega]
          rw [this]; exact List.mem_cons_of_mem _ hm
        · have : (p.1, y + 1) = p := by rw [show y + 1 = p.2 by omega]
          simp [this]
      · obtain ⟨r, rfl⟩ := h.head
        have hrest : W ((p.1, p.2 + s) :: r) (x, y) = 0 := by
          -- all behind lies beyond the band
          have key : ∀ (l : List Co), (∀ z ∈ l, s * (p.2 + s) ≤ s * z.2) → W l (x, y) = 0 := by
            intro l
            induction l with
            | nil => intro _; rfl
            | cons a l ihl =>
              intro hl
              cases l with
              | nil => rfl
              | cons b l =>
                simp only [W]
                rw [ihl (fun z hz => hl z (List.mem_cons_of_mem _ hz))]
                have ha := hl a (by simp)
                have hb' := hl b (by simp)
                have : om a b (x, y) = 0 := by
                  unfold om
                  by_cases hc : a.1 = b.1 ∧ x < a.1 ∧ min a.2 b.2 = y
                  · obtain ⟨_, _, c3⟩ := hc
                    have : b.2 - a.2 = 0 := by
                      rcases hs with rfl | rfl <;> omega
                    rw [this]; split <;> rfl
                  · rw [if_neg hc]
                omega
          refine key _ fun z hz => ?_
          exact (h.bounds hs z hz).2.2.1
        simp only [W]
        rw [hrest]
        unfold om
        by_cases hx : x < p.1
        · rw [if_pos ⟨rfl, hx, hy⟩, if_pos hx]; simp only; omega
        · rw [if_neg (fun q => hx q.2.1), if_neg hx]; rfl
    · have hq : min (p.2 + s) q.2 ≤ y ∧ y < max (p.2 + s) q.2 := by
        rcases hs with rfl | rfl <;> omega
      obtain ⟨x0, a, b, c⟩ := ih hq.1 hq.2
      refine ⟨x0, List.mem_cons_of_mem _ a, List.mem_cons_of_mem _ b, fun x => ?_⟩
      obtain ⟨r, rfl⟩ := h.head
      rw [← c x]
      simp only [W]
      have : om p (p.1, p.2 + s) (x, y) = 0 := by
        unfold om; rw [if_neg]; simp only; intro q; exact hy q.2.2
      omega
theorem Path.flat {s : Int} (hs : s = 1 ∨ s = -1) {p q : Co} {l : List Co} (h : Path s p q l) (y : Int)
    (hy : y < min p.2 q.2 ∨ max p.2 q.2 ≤ y) (x : Int) : W l (x, y) = 0 := by
  have e : s * s = 1 := by rcases hs with rfl | rfl <;> decide
  induction h with
  | one p => rfl
  | @east p q l h ih =>
    obtain ⟨r, rfl⟩ := h.head
    simp only [W]
    rw [ih hy]
    unfold om; rw [if_neg]; rfl
    simp only; omega
  | @steep p q l h ih =>
    have hb := h.bounds hs _ h.mem_end
    simp only [Int.mul_add, e] at hb
    have h' : y < min (p.2 + s) q.2 ∨ max (p.2 + s) q.2 ≤ y := by
      rcases hs with rfl | rfl <;> omega
    obtain ⟨r, rfl⟩ := h.head
    simp only [W]
    rw [ih h']
    unfold om; rw [if_neg]; rfl
    simp only; intro q
    have := q.2.2
    rcases hs with rfl | rfl <;> omega
/-- the crossing is one -/
theorem Path.cross_one {s : Int} (hs : s = 1 ∨ s = -1) {p q : Co} {l : List Co} (h : Path s p q l) {x x' y : Int}
    (a : (x, y) ∈ l) (b : (x, y + 1) ∈ l) (a' : (x', y) ∈ l) (b' : (x', y + 1) ∈ l) : x = x' := by
  have c1 := h.comp hs _ a _ b'
  have c2 := h.comp hs _ b _ a'
  have c3 := h.comp hs _ a _ b
  simp only at c1 c2
  rcases hs with rfl | rfl <;> omega
end Tri
end
section
/-! Walks of a consistent table; the greedy filling. -/
set_option autoImplicit false
namespace Tri

def onB (w h : Int) (p : Co) : Prop := 0 ≤ p.1 ∧ p.1 ≤ w ∧ 0 ≤ p.2 ∧ p.2 ≤ h
/-- the last corner but one -/
def sl (l : List Co) : Co := l.getD (l.length - 2) (0, 0)
/-- on pairs of fewer than n steps the table has fitting letters and is consistent -/
structure Cn (t : Co → Co → L) (w h : Int) (n : Nat) : Prop where
  good : ∀ p q, onB w h p → onB w h q → p.1 < q.1 → p.2 ≠ q.2 → dist p q < n → GoodAt t p q
  cons : ∀ p q, onB w h p → onB w h q → p.1 < q.1 → p.2 ≠ q.2 → dist p q < n → fl t p (sl (wk t p q)) = t p q

section
variable {t : Co → Co → L} {w h : Int} {n : Nat} {s : Int} {p q z : Co}

theorem half_cases (hs : s = 1 ∨ s = -1) (H : Half s p q) : (s = 1 ∧ p.1 ≤ q.1 ∧ p.2 ≤ q.2) ∨ (s = -1 ∧ p.1 ≤ q.1 ∧ q.2 ≤ p.2) := by
  unfold Half at H
  rcases hs with rfl | rfl
  · left; omega
  · right; omega
theorem half_of (h : p.1 ≤ q.1) : ∃ s : Int, (s = 1 ∨ s = -1) ∧ Half s p q := by
  by_cases h2 : p.2 ≤ q.2
  · exact ⟨1, .inl rfl, h, by omega⟩
  · exact ⟨-1, .inr rfl, h, by omega⟩
theorem co_ext (h1 : p.1 = q.1) (h2 : p.2 = q.2) : p = q := Prod.ext h1 h2
theorem dist_zero (h : dist p q = 0) : p = q := by unfold dist at h; apply co_ext <;> omega
theorem dist_self : dist p p = 0 := by unfold dist; omega

/-- one step of a walk -/
theorem step (c : Cn t w h n) (hs : s = 1 ∨ s = -1) (hp : onB w h p) (hq : onB w h q) (H : Half s p q) (hd : dist p q < n) (hne : p ≠ q) :
    (mv p (fl t p q) = (p.1 + 1, p.2) ∨ mv p (fl t p q) = (p.1, p.2 + s)) ∧ onB w h (mv p (fl t p q)) ∧ Half s (mv p (fl t p q)) q ∧ dist (mv p (fl t p q)) q + 1 = dist p q := by
  have hc := half_cases hs H
  unfold fl
  by_cases e1 : p.2 = q.2
  · rw [if_pos e1]
    have : p.1 ≠ q.1 := fun e => hne (co_ext e e1)
    refine ⟨.inl rfl, ?_, ?_, ?_⟩
    · unfold onB at *; simp only [mv]; omega
    · unfold Half; simp only [mv]; refine ⟨by omega, ?_⟩; rw [e1]; simp
    · unfold dist; simp only [mv]; omega
  · rw [if_neg e1]
    by_cases e2 : p.1 = q.1
    · rw [if_pos e2]
      rcases hc with ⟨rfl, a, b⟩ | ⟨rfl, a, b⟩
      · rw [if_pos (by omega)]
        refine ⟨.inr rfl, ?_, ?_, ?_⟩
        · unfold onB at *; simp only [mv]; omega
        · unfold Half; simp only [mv]; omega
        · unfold dist; simp only [mv]; omega
      · rw [if_neg (by omega)]
        refine ⟨.inr rfl, ?_, ?_, ?_⟩
        · unfold onB at *; simp only [mv]; omega
        · unfold Half; simp only [mv]; omega
        · unfold dist; simp only [mv]; omega
    · rw [if_neg e2]
      have g := c.good p q hp hq (by have := H.1; omega) e1 hd
      rcases hc with ⟨rfl, a, b⟩ | ⟨rfl, a, b⟩
      · rcases g with g | g
        · rw [g]
          refine ⟨.inl rfl, ?_, ?_, ?_⟩
          · unfold onB at *; simp only [mv]; omega
          · unfold Half; simp only [mv]; omega
          · unfold dist; simp only [mv]; omega
        · rw [g]; unfold steepL; rw [if_pos (by omega)]
          refine ⟨.inr rfl, ?_, ?_, ?_⟩
          · unfold onB at *; simp only [mv]; omega
          · unfold Half; simp only [mv]; omega
          · unfold dist; simp only [mv]; omega
      · rcases g with g | g
        · rw [g]
          refine ⟨.inl rfl, ?_, ?_, ?_⟩
          · unfold onB at *; simp only [mv]; omega
          · unfold Half; simp only [mv]; omega
          · unfold dist; simp only [mv]; omega
        · rw [g]; unfold steepL; rw [if_neg (by omega)]
          refine ⟨.inr rfl, ?_, ?_, ?_⟩
          · unfold onB at *; simp only [mv]; omega
          · unfold Half; simp only [mv]; omega
          · unfold dist; simp only [mv]; omega

theorem wk_self : wk t p p = [p] := by unfold wk; rw [dist_self]; rfl
/-- a walk from p is p and the walk from the next corner -/
theorem wk_step (c : Cn t w h n) (hs : s = 1 ∨ s = -1) (hp : onB w h p) (hq : onB w h q) (H : Half s p q) (hd : dist p q < n) (hne : p ≠ q) :
    wk t p q = p :: wk t (mv p (fl t p q)) q := by
  have e := (step c hs hp hq H hd hne).2.2.2
  unfold wk
  rw [← e]
  show (if p = q then [p] else _) = _
  rw [if_neg hne]
theorem wk_path (c : Cn t w h n) (hs : s = 1 ∨ s = -1) : ∀ (k : Nat) (p q : Co), dist p q = k → onB w h p → onB w h q → Half s p q → k < n → Path s p q (wk t p q)
  | 0, p, q, e, _, _, _, _ => by
    have := dist_zero e
    subst this
    rw [wk_self]
    exact .one p
  | k + 1, p, q, e, hp, hq, H, hd => by
    have hne : p ≠ q := fun q' => by subst q'; rw [dist_self] at e; omega
    obtain ⟨h1, h2, h3, h4⟩ := step c hs hp hq H (by omega) hne
    have ih := wk_path c hs k _ q (by omega) h2 hq h3 (by omega)
    rw [wk_step c hs hp hq H (by omega) hne]
    rcases h1 with h1 | h1
    · rw [h1] at ih ⊢; exact .east ih
    · rw [h1] at ih ⊢; exact .steep ih
theorem wkP (c : Cn t w h n) (hs : s = 1 ∨ s = -1) (hp : onB w h p) (hq : onB w h q) (H : Half s p q) (hd : dist p q < n) : Path s p q (wk t p q) :=
  wk_path c hs _ p q rfl hp hq H hd

theorem sl_cons {a : Co} {l : List Co} (h : 2 ≤ l.length) : sl (a :: l) = sl l := by
  unfold sl
  have : (a :: l).length - 2 = (l.length - 2) + 1 := by simp; omega
  rw [this]; rfl
theorem sl_two {a b : Co} : sl [a, b] = a := rfl
theorem path_len {s : Int} (hs : s = 1 ∨ s = -1) {p q : Co} {l : List Co} (h : Path s p q l) : (l.length : Int) = (q.1 - p.1) + s * (q.2 - p.2) + 1 := by
  have e : s * s = 1 := by rcases hs with rfl | rfl <;> decide
  induction h with
  | one p => simp
  | @east p q l h ih => simp only [List.length_cons]; simp only at ih; rw [Int.mul_sub] at *; omega
  | @steep p q l h ih =>
    simp only [List.length_cons]; simp only [Int.mul_sub, Int.mul_add, e] at *; omega
theorem dist_half (hs : s = 1 ∨ s = -1) (H : Half s p q) : (dist p q : Int) = (q.1 - p.1) + s * (q.2 - p.2) := by
  unfold dist
  rcases half_cases hs H with ⟨rfl, a, b⟩ | ⟨rfl, a, b⟩ <;> omega
theorem wk_len (c : Cn t w h n) (hs : s = 1 ∨ s = -1) (hp : onB w h p) (hq : onB w h q) (H : Half s p q) (hd : dist p q < n) : (wk t p q).length = dist p q + 1 := by
  have a := path_len hs (wkP c hs hp hq H hd)
  have b := dist_half hs H
  omega
theorem path_on {l : List Co} (hs : s = 1 ∨ s = -1) (P : Path s p q l) (hp : onB w h p) (hq : onB w h q) : ∀ z ∈ l, onB w h z := by
  intro z hz
  have := P.bounds hs z hz
  unfold onB at *
  rcases hs with rfl | rfl <;> omega
/-- parts of a path, their halves -/
theorem path_halves {l : List Co} (hs : s = 1 ∨ s = -1) (P : Path s p q l) (hz : z ∈ l) : Half s p z ∧ Half s z q ∧ dist p z + dist z q = dist p q := by
  have := P.bounds hs z hz
  have h1 : Half s p z := by unfold Half; rw [Int.mul_sub]; omega
  have h2 : Half s z q := by unfold Half; rw [Int.mul_sub]; omega
  have a := dist_half hs h1
  have b := dist_half hs h2
  have d := dist_half hs (P.half hs)
  refine ⟨h1, h2, ?_⟩
  rw [Int.mul_sub] at *
  omega
/-- a straight pair's letter -/
theorem fl_part (c : Cn t w h n) (hs : s = 1 ∨ s = -1) (hp : onB w h p) (hq : onB w h q) (H : Half s p q) (hd : dist p q < n) (hne : p ≠ q) {e : Co} (he : e ∈ wk t p q) (hpe : p ≠ e) (hst : p.1 = q.1 ∨ p.2 = q.2) : fl t p e = fl t p q := by
  have b := (wkP c hs hp hq H hd).bounds hs e he
  have hc := half_cases hs H
  have hx : p.1 = e.1 ∨ p.2 = e.2 := by
    rcases hst with z | z
    · left; omega
    · right; rcases hs with rfl | rfl <;> omega
  unfold fl
  rcases hst with z | z
  · have e1 : p.1 = e.1 := by omega
    have e2 : p.2 ≠ e.2 := fun q' => hpe (co_ext e1 q')
    have e3 : p.2 ≠ q.2 := fun q' => hne (co_ext z q')
    rw [if_neg e2, if_pos e1, if_neg e3, if_pos z]
    rcases hc with ⟨rfl, _, _⟩ | ⟨rfl, _, _⟩
    · rw [if_pos (by omega), if_pos (by omega)]
    · rw [if_neg (by omega), if_neg (by omega)]
  · have e2 : p.2 = e.2 := by rcases hs with rfl | rfl <;> omega
    rw [if_pos e2, if_pos z]
theorem sl_mem {l : List Co} (h : 2 ≤ l.length) : sl l ∈ l := by
  unfold sl
  rw [List.getD_eq_getElem?_getD, List.getElem?_eq_getElem (by omega)]
  exact List.getElem_mem _
/-- the walk without its last corner -/
theorem wk_drop (c : Cn t w h n) (hs : s = 1 ∨ s = -1) : ∀ (k : Nat) (p q : Co), dist p q = k → onB w h p → onB w h q → Half s p q → k < n → p ≠ q →
    (wk t p q).dropLast = wk t p (sl (wk t p q)) ∧ dist p (sl (wk t p q)) + 1 = dist p q ∧ Half s p (sl (wk t p q)) ∧ onB w h (sl (wk t p q)) ∧ sl (wk t p q) ∈ wk t p q ∧ (sl (wk t p q) = p ∨ fl t p (sl (wk t p q)) = fl t p q)
  | 0, p, q, e, _, _, _, _, hne => absurd (dist_zero e) hne
  | k + 1, p, q, e, hp, hq, H, hd, hne => by
    obtain ⟨h1, h2, h3, h4⟩ := step c hs hp hq H (by omega) hne
    have P := wkP c hs hp hq H (by omega)
    have ew := wk_step c hs hp hq H (by omega) hne
    have hlen := wk_len c hs hp hq H (by omega)
    have hm : sl (wk t p q) ∈ wk t p q := sl_mem (by omega)
    have hh := path_halves hs P hm
    have ho := path_on hs P hp hq _ hm
    by_cases hn : mv p (fl t p q) = q
    · rw [hn, wk_self] at ew
      rw [ew]
      show [p] = wk t p p ∧ _
      rw [wk_self]
      refine ⟨rfl, ?_, ?_, hp, by simp [sl_two], .inl rfl⟩
      · rw [sl_two, dist_self]; rw [hn, dist_self] at h4; omega
      · rw [sl_two]; exact ⟨Int.le_refl _, by simp⟩
    · have ih := wk_drop c hs k _ q (by omega) h2 hq h3 (by omega) hn
      obtain ⟨i1, i2, i3, i4, i5, i6⟩ := ih
      have hl2 := wk_len c hs h2 hq h3 (by omega)
      have pos : 1 ≤ dist (mv p (fl t p q)) q := by
        have : dist (mv p (fl t p q)) q ≠ 0 := fun z => hn (dist_zero z)
        omega
      have es : sl (wk t p q) = sl (wk t (mv p (fl t p q)) q) := by rw [ew, sl_cons (by omega)]
      have hd1 : dist p (sl (wk t p q)) + 1 = dist p q := by
        have := path_halves hs (wkP c hs h2 hq h3 (by omega)) i5
        rw [← es] at this i2
        have h0 := hh.2.2
        omega
      have hpe : p ≠ sl (wk t p q) := fun z => by
        rw [← z, dist_self] at hd1
        omega
      have ef : fl t p (sl (wk t p q)) = fl t p q := by
        by_cases hst : p.1 = q.1 ∨ p.2 = q.2
        · exact fl_part c hs hp hq H (by omega) hne hm hpe hst
        · have a1 : p.1 ≠ q.1 := fun z => hst (.inl z)
          have a2 : p.2 ≠ q.2 := fun z => hst (.inr z)
          have := c.cons p q hp hq (by have := H.1; omega) a2 (by omega)
          rw [this]
          unfold fl
          rw [if_neg a2, if_neg a1]
      refine ⟨?_, hd1, hh.1, ho, hm, .inr ef⟩
      rw [wk_step c hs hp ho hh.1 (by omega) hpe, ef, es, ← i1, ew]
      have : wk t (mv p (fl t p q)) q ≠ [] := (wkP c hs h2 hq h3 (by omega)).ne_nil
      rw [List.dropLast_cons_of_ne_nil this]
theorem mem_dropLast {l : List Co} {x : Co} (h : x ∈ l) (hl : l ≠ []) (hx : x ≠ l.getLast hl) : x ∈ l.dropLast := by
  have := List.dropLast_concat_getLast hl
  rw [← this] at h
  rcases List.mem_append.mp h with h | h
  · exact h
  · simp at h; exact absurd h hx
theorem path_last {s : Int} {p q : Co} {l : List Co} (h : Path s p q l) : l.getLast h.ne_nil = q := by
  induction h with
  | one => rfl
  | east h ih => rw [List.getLast_cons h.ne_nil]; exact ih
  | steep h ih => rw [List.getLast_cons h.ne_nil]; exact ih
/-- the first step to a corner of the walk is the walk's -/
theorem fl_mem (c : Cn t w h n) (hs : s = 1 ∨ s = -1) : ∀ (k : Nat) (p q : Co), dist p q = k → onB w h p → onB w h q → Half s p q → k < n → ∀ z ∈ wk t p q, z ≠ p → fl t p z = fl t p q
  | 0, p, q, e, _, _, _, _, z, hz, hne => by
    have := dist_zero e
    subst this
    rw [wk_self] at hz
    simp at hz
    exact absurd hz hne
  | k + 1, p, q, e, hp, hq, H, hd, z, hz, hne => by
    have hpq : p ≠ q := fun q' => by subst q'; rw [dist_self] at e; omega
    by_cases hzq : z = q
    · rw [hzq]
    · have P := wkP c hs hp hq H (by omega)
      have hm := mem_dropLast hz P.ne_nil (by rw [path_last P]; exact hzq)
      obtain ⟨d1, d2, d3, d4, d5, d6⟩ := wk_drop c hs _ p q e hp hq H hd hpq
      rw [d1] at hm
      have ih := fl_mem c hs k p _ (by omega) hp d4 d3 (by omega) z hm hne
      rcases d6 with d6 | d6
      · rw [d6, wk_self] at hm
        simp at hm
        exact absurd hm hne
      · rw [ih, d6]
/-- a walk through z is the walk to z and the walk from z -/
theorem wk_split (c : Cn t w h n) (hs : s = 1 ∨ s = -1) : ∀ (k : Nat) (p q : Co), dist p q = k → onB w h p → onB w h q → Half s p q → k < n → ∀ z ∈ wk t p q, wk t p q = wk t p z ++ (wk t z q).tail
  | 0, p, q, e, _, _, _, _, z, hz => by
    have := dist_zero e
    subst this
    rw [wk_self] at hz
    simp at hz
    subst hz
    rw [wk_self]; rfl
  | k + 1, p, q, e, hp, hq, H, hd, z, hz => by
    have hpq : p ≠ q := fun q' => by subst q'; rw [dist_self] at e; omega
    obtain ⟨h1, h2, h3, h4⟩ := step c hs hp hq H (by omega) hpq
    have ew := wk_step c hs hp hq H (by omega) hpq
    have P := wkP c hs hp hq H (by omega)
    have hh := path_halves hs P hz
    have ho := path_on hs P hp hq _ hz
    by_cases hzp : z = p
    · subst hzp
      rw [wk_self, ew]; rfl
    · have hz' : z ∈ wk t (mv p (fl t p q)) q := by
        rw [ew] at hz
        rcases List.mem_cons.mp hz with hz | hz
        · exact absurd hz hzp
        · exact hz
      have ih := wk_split c hs k _ q (by omega) h2 hq h3 (by omega) z hz'
      rw [ew, ih, wk_step c hs hp ho hh.1 (by omega) (fun q' => hzp q'.symm), fl_mem c hs _ p q e hp hq H hd z hz hzp]
      rfl
end
end Tri
end
section
/-! Two paths that change sides share a corner; at least one candidate of the greedy filling is admissible. -/
set_option autoImplicit false
namespace Tri

/-- two paths of one half, from one diagonal to one diagonal, that change sides, share a corner -/
theorem path_meet {s : Int} (hs : s = 1 ∨ s = -1) {a1 b1 : Co} {l1 : List Co} (P1 : Path s a1 b1 l1) : ∀ {a2 b2 : Co} {l2 : List Co}, Path s a2 b2 l2 →
    a1.1 + s * a1.2 = a2.1 + s * a2.2 → b1.1 + s * b1.2 = b2.1 + s * b2.2 → a1.1 ≤ a2.1 → b2.1 ≤ b1.1 → ∃ z, z ∈ l1 ∧ z ∈ l2 := by
  have e : s * s = 1 := by rcases hs with rfl | rfl <;> decide
  have same : ∀ a b : Co, a.1 = b.1 → a.1 + s * a.2 = b.1 + s * b.2 → a = b := by
    intro a b h1 h2
    apply co_ext h1
    rcases hs with rfl | rfl <;> omega
  induction P1 with
  | one p =>
    intro a2 b2 l2 P2 h1 h2 h3 h4
    have hb := P2.bounds hs _ P2.mem_end
    have : p = a2 := same _ _ (by omega) h1
    exact ⟨p, by simp, by rw [this]; exact P2.mem_start⟩
  | @east p q l P1 ih =>
    intro a2 b2 l2 P2 h1 h2 h3 h4
    by_cases hx : p.1 = a2.1
    · have : p = a2 := same _ _ hx h1
      exact ⟨p, by simp, by rw [this]; exact P2.mem_start⟩
    · have hb := P1.bounds hs _ P1.mem_end
      simp only at hb
      cases P2 with
      | one => exfalso; omega
      | @east _ _ l2 P2 =>
        obtain ⟨z, z1, z2⟩ := ih P2 (by simp only; omega) h2 (by simp only; omega) h4
        exact ⟨z, List.mem_cons_of_mem _ z1, List.mem_cons_of_mem _ z2⟩
      | @steep _ _ l2 P2 =>
        obtain ⟨z, z1, z2⟩ := ih P2 (by simp only [Int.mul_add, e]; omega) h2 (by simp only; omega) h4
        exact ⟨z, List.mem_cons_of_mem _ z1, List.mem_cons_of_mem _ z2⟩
  | @steep p q l P1 ih =>
    intro a2 b2 l2 P2 h1 h2 h3 h4
    by_cases hx : p.1 = a2.1
    · have : p = a2 := same _ _ hx h1
      exact ⟨p, by simp, by rw [this]; exact P2.mem_start⟩
    · have hb := P1.bounds hs _ P1.mem_end
      simp only [Int.mul_add, e] at hb
      cases P2 with
      | one => exfalso; omega
      | @east _ _ l2 P2 =>
        obtain ⟨z, z1, z2⟩ := ih P2 (by simp only [Int.mul_add, e]; omega) h2 (by simp only; omega) h4
        exact ⟨z, List.mem_cons_of_mem _ z1, List.mem_cons_of_mem _ z2⟩
      | @steep _ _ l2 P2 =>
        obtain ⟨z, z1, z2⟩ := ih P2 (by simp only [Int.mul_add, e]; omega) h2 (by simp only; omega) h4
        exact ⟨z, List.mem_cons_of_mem _ z1, List.mem_cons_of_mem _ z2⟩

section
variable {t : Co → Co → L} {w h : Int} {n : Nat} {s : Int} {p q z : Co}
/-- the candidate that begins with the letter l is admissible -/
def adm (t : Co → Co → L) (p q : Co) (l : L) : Prop := fl t p (sl (p :: wk t (mv p l) q)) = l

theorem sl_tail {a : Co} {l : List Co} (h : 2 ≤ l.length) {b : Co} : sl (a :: l) = sl (b :: l) := by rw [sl_cons h, sl_cons h]
/-- the suffix of a walk from one of its corners has the same last corner but one -/
theorem sl_suffix (c : Cn t w h n) (hs : s = 1 ∨ s = -1) (hp : onB w h p) (hq : onB w h q) (H : Half s p q) (hd : dist p q < n) (hz : z ∈ wk t p q) (hzq : z ≠ q) : sl (wk t p q) = sl (wk t z q) := by
  have P := wkP c hs hp hq H hd
  have hh := path_halves hs P hz
  have ho := path_on hs P hp hq z hz
  have e := wk_split c hs _ p q rfl hp hq H hd z hz
  have l1 := wk_len c hs hp hq H hd
  have l2 := wk_len c hs ho hq hh.2.1 (by omega)
  have l3 := wk_len c hs hp ho hh.1 (by omega)
  have dz : dist z q ≠ 0 := fun k => hzq (dist_zero k)
  have P3 := wkP c hs hp ho hh.1 (by omega)
  have P2 := wkP c hs ho hq hh.2.1 (by omega)
  obtain ⟨r, er⟩ := P2.head
  unfold sl
  rw [l1, l2, e, er]
  simp only [List.tail_cons]
  have lr : r.length = dist z q := by rw [er] at l2; simpa using l2
  rw [List.getD_eq_getElem?_getD, List.getD_eq_getElem?_getD]
  congr 1
  by_cases hone : dist z q = 1
  · rw [List.getElem?_append_left (by omega)]
    have : dist z q + 1 - 2 = 0 := by omega
    rw [this]
    have i1 : dist p q + 1 - 2 = (wk t p z).length - 1 := by omega
    rw [i1, ← List.getLast?_eq_getElem?, List.getLast?_eq_some_getLast P3.ne_nil, path_last P3]
    rfl
  · rw [List.getElem?_append_right (by omega)]
    obtain ⟨k, hk⟩ : ∃ k, dist z q + 1 - 2 = k + 1 := ⟨dist z q - 2, by omega⟩
    rw [hk, List.getElem?_cons_succ]
    congr 1
    omega

theorem fl_valid (c : Cn t w h n) (hs : s = 1 ∨ s = -1) (hp : onB w h p) (hq : onB w h q) (H : Half s p q) (hd : dist p q < n) (hne : p ≠ q) (l : L) (hl : l = (if s = 1 then L.N else L.S)) : fl t p q = .E ∨ fl t p q = l := by
  subst hl
  obtain ⟨h1, _, _, _⟩ := step c hs hp hq H hd hne
  cases e : fl t p q with
  | E => left; rfl
  | N =>
    right; rw [e] at h1; simp only [mv] at h1
    rcases hs with rfl | rfl
    · rfl
    · rcases h1 with h1 | h1
      · have := congrArg Prod.fst h1; simp only at this; omega
      · have := congrArg Prod.snd h1; simp only at this; omega
  | S =>
    right; rw [e] at h1; simp only [mv] at h1
    rcases hs with rfl | rfl
    · rcases h1 with h1 | h1
      · have := congrArg Prod.fst h1; simp only at this; omega
      · have := congrArg Prod.snd h1; simp only at this; omega
    · rfl

/-- the last corner but one is west of the end or (0, s) before it -/
theorem sl_before {l : List Co} (hs : s = 1 ∨ s = -1) (P : Path s p q l) (hne : p ≠ q) : sl l = (q.1 - 1, q.2) ∨ sl l = (q.1, q.2 - s) := by
  induction P with
  | one p => exact absurd rfl hne
  | @east p q l P ih =>
    by_cases e : (p.1 + 1, p.2) = q
    · subst e
      cases P with
      | one => left; show p = _; apply co_ext <;> simp
      | east P => have := P.bounds hs _ P.mem_end; simp only at this; omega
      | steep P => have := P.bounds hs _ P.mem_end; simp only at this; rcases hs with rfl | rfl <;> omega
    · have l2 : 2 ≤ l.length := by
        cases P with
        | one => exact absurd rfl e
        | east P => have := List.length_pos_iff.mpr P.ne_nil; simp; omega
        | steep P => have := List.length_pos_iff.mpr P.ne_nil; simp; omega
      rw [sl_cons l2]; exact ih e
  | @steep p q l P ih =>
    by_cases e : (p.1, p.2 + s) = q
    · subst e
      cases P with
      | one => right; show p = _; apply co_ext <;> simp
      | east P => have := P.bounds hs _ P.mem_end; simp only at this; omega
      | steep P => have := P.bounds hs _ P.mem_end; simp only at this; rcases hs with rfl | rfl <;> omega
    · have l2 : 2 ≤ l.length := by
        cases P with
        | one => exact absurd rfl e
        | east P => have := List.length_pos_iff.mpr P.ne_nil; simp; omega
        | steep P => have := List.length_pos_iff.mpr P.ne_nil; simp; omega
      rw [sl_cons l2]; exact ih e

/-- at least one candidate is admissible -/
theorem greedy (c : Cn t w h n) (hp : onB w h p) (hq : onB w h q) (h1 : p.1 < q.1) (h2 : p.2 ≠ q.2) (hd : dist p q = n) : adm t p q .E ∨ adm t p q (steepL p q) := by
  -- the half
  obtain ⟨s, hs, H, hl⟩ : ∃ s : Int, (s = 1 ∨ s = -1) ∧ Half s p q ∧ steepL p q = (if s = 1 then L.N else L.S) := by
    by_cases g : p.2 < q.2
    · exact ⟨1, .inl rfl, ⟨by omega, by omega⟩, by unfold steepL; rw [if_pos g]; rfl⟩
    · exact ⟨-1, .inr rfl, ⟨by omega, by omega⟩, by unfold steepL; rw [if_neg g]; rfl⟩
  have e : s * s = 1 := by rcases hs with rfl | rfl <;> decide
  have hmv : mv p (steepL p q) = (p.1, p.2 + s) := by
    rw [hl]; rcases hs with rfl | rfl <;> rfl
  have hsy : 1 ≤ s * (q.2 - p.2) := by
    have := H.2
    rcases hs with rfl | rfl <;> omega
  -- the two next corners
  have oE : onB w h (p.1 + 1, p.2) := by unfold onB at *; simp only; omega
  have oS : onB w h (p.1, p.2 + s) := by
    unfold onB at *; simp only
    rcases hs with rfl | rfl <;> omega
  have HE : Half s (p.1 + 1, p.2) q := ⟨by simp only; omega, by simp only; omega⟩
  have HS : Half s (p.1, p.2 + s) q := by
    refine ⟨by simp only; omega, ?_⟩
    simp only
    rcases hs with rfl | rfl <;> omega
  have dp := dist_half hs H
  have dE := dist_half hs HE
  have dS := dist_half hs HS
  simp only [Int.mul_sub, Int.mul_add, e] at dp dE dS hsy
  have dE' : dist (p.1 + 1, p.2) q + 1 = n := by omega
  have dS' : dist (p.1, p.2 + s) q + 1 = n := by omega
  have PE := wkP c hs oE hq HE (by omega)
  have PS := wkP c hs oS hq HS (by omega)
  by_cases aE : adm t p q .E
  · exact .inl aE
  by_cases aS : adm t p q (steepL p q)
  · exact .inr aS
  exfalso
  unfold adm at aE aS
  rw [hmv] at aS
  simp only [mv] at aE
  have neE : (p.1 + 1, p.2) ≠ q := fun z => h2 (by have := congrArg Prod.snd z; simpa using this)
  have neS : (p.1, p.2 + s) ≠ q := fun z => by
    have := congrArg Prod.fst z; simp only at this; omega
  have lE := wk_len c hs oE hq HE (by omega)
  have lS := wk_len c hs oS hq HS (by omega)
  have n2 : 2 ≤ n := by
    have : dist (p.1 + 1, p.2) q ≠ 0 := fun z => neE (dist_zero z)
    omega
  rw [sl_cons (by omega)] at aE aS
  obtain ⟨E1, E2, E3, E4, E5, _⟩ := wk_drop c hs _ _ q rfl oE hq HE (by omega) neE
  obtain ⟨S1, S2, S3, S4, S5, _⟩ := wk_drop c hs _ _ q rfl oS hq HS (by omega) neS
  have bE := sl_before hs PE neE
  have bS := sl_before hs PS neS
  -- names
  generalize heE : sl (wk t (p.1 + 1, p.2) q) = eE at *
  generalize heS : sl (wk t (p.1, p.2 + s) q) = eS at *
  have HpE : Half s p eE := ⟨by have := E3.1; simp only at this; omega, by have := E3.2; simpa using this⟩
  have HpS : Half s p eS := ⟨by have := S3.1; simpa using this, by have := S3.2; simp only [Int.mul_sub, Int.mul_add, e] at this ⊢; omega⟩
  have dpE := dist_half hs HpE
  have dpS := dist_half hs HpS
  have dE3 := dist_half hs E3
  have dS3 := dist_half hs S3
  simp only [Int.mul_sub, Int.mul_add, e] at dpE dpS dE3 dS3
  have kE : dist p eE < n := by omega
  have kS : dist p eS < n := by omega
  have pneE : p ≠ eE := fun z => by
    rw [← z] at E3; have := E3.1; simp only at this; omega
  have pneS : p ≠ eS := fun z => by
    rw [← z] at S3; have := S3.2; simp only [Int.mul_sub, Int.mul_add, e] at this; omega
  have vE := fl_valid c hs hp E4 HpE kE pneE _ hl
  have vS := fl_valid c hs hp S4 HpS kS pneS _ hl
  have fE : fl t p eE = steepL p q := vE.resolve_left aE
  have fS : fl t p eS = .E := vS.resolve_right aS
  have neq : eE ≠ eS := fun z => by
    rw [z, fS] at fE
    rw [hl] at fE
    rcases hs with rfl | rfl <;> simp at fE
  -- the walks p - eE and p - eS
  have wE := wk_step c hs hp E4 HpE kE pneE
  have wS := wk_step c hs hp S4 HpS kS pneS
  rw [fE, hmv] at wE
  rw [fS] at wS
  simp only [mv] at wS
  have QE := wkP c hs hp E4 HpE kE
  have QS := wkP c hs hp S4 HpS kS
  -- first letters at a common corner
  have contra : ∀ z, z ∈ wk t p eE → z ∈ wk t p eS → z ≠ p → False := fun z z1 z2 z3 => by
    have g1 := fl_mem c hs _ p eE rfl hp E4 HpE kE z z1 z3
    have g2 := fl_mem c hs _ p eS rfl hp S4 HpS kS z z2 z3
    rw [g1, fE] at g2
    rw [fS, hl] at g2
    rcases hs with rfl | rfl <;> simp at g2
  -- the steps from p on both walks
  have stE := (step c hs hp E4 HpE kE pneE)
  rw [fE, hmv] at stE
  have stS := (step c hs hp S4 HpS kS pneS)
  rw [fS] at stS
  simp only [mv] at stS
  have RE := wkP c hs stE.2.1 E4 stE.2.2.1 (by omega)
  have RS := wkP c hs stS.2.1 S4 stS.2.2.1 (by omega)
  have bE2 := RE.bounds hs _ RE.mem_end
  have bS2 := RS.bounds hs _ RS.mem_end
  simp only [Int.mul_add, e] at bE2 bS2
  have cE : eE.1 = q.1 - 1 ∧ eE.2 = q.2 ∨ eE.1 = q.1 ∧ eE.2 = q.2 - s := by
    rcases bE with z | z
    · left; rw [z]; simp
    · right; rw [z]; simp
  have cS : eS.1 = q.1 - 1 ∧ eS.2 = q.2 ∨ eS.1 = q.1 ∧ eS.2 = q.2 - s := by
    rcases bS with z | z
    · left; rw [z]; simp
    · right; rw [z]; simp
  have sq : s * (q.2 - s) = s * q.2 - 1 := by rw [Int.mul_sub, e]
  rcases cE with ⟨x1, y1⟩ | ⟨x1, y1⟩
  · rcases cS with ⟨x2, y2⟩ | ⟨x2, y2⟩
    · exact neq (co_ext (by omega) (by omega))
    · -- eE west of q, eS below q: the walks pE - eE and pS - eS meet; both go on to q alike
      have PE' := wkP c hs oE E4 E3 (by omega)
      have PS' := wkP c hs oS S4 S3 (by omega)
      obtain ⟨z, z1, z2⟩ := path_meet hs PS' PE' (by simp only [Int.mul_add, e]; omega) (by rw [x1, y1, x2, y2, sq]; omega) (by simp only; omega) (by omega)
      have zq : z ≠ q := fun k => by
        have i1 := PE'.bounds hs z z2
        have := i1.2.1
        rw [k] at this
        omega
      rw [← S1] at z1
      rw [← E1] at z2
      have m1 := (List.dropLast_sublist _).subset z2
      have m2 := (List.dropLast_sublist _).subset z1
      have g1 := sl_suffix c hs oE hq HE (by omega) m1 zq
      have g2 := sl_suffix c hs oS hq HS (by omega) m2 zq
      rw [heE] at g1
      rw [heS] at g2
      exact neq (g1.trans g2.symm)
  · rcases cS with ⟨x2, y2⟩ | ⟨x2, y2⟩
    · -- eE below q, eS west of q: the walks p - eE (by the steep step) and p - eS (by the step east) meet behind p
      obtain ⟨z, z1, z2⟩ := path_meet hs RE RS (by simp only [Int.mul_add, e]; omega) (by rw [x1, y1, x2, y2, sq]; omega) (by simp only; omega) (by omega)
      refine contra z (by rw [wE]; exact List.mem_cons_of_mem _ z1) (by rw [wS]; exact List.mem_cons_of_mem _ z2) fun k => ?_
      have := RS.bounds hs z z2
      rw [k] at this
      simp only at this
      omega
    · exact neq (co_ext (by omega) (by omega))
end
end Tri
end
section
/-! Lines of a plane in both directions. -/
set_option autoImplicit false
namespace Tri

/-- tuples compare -/
def lt (p q : Co) : Prop := p.1 < q.1 ∨ (p.1 = q.1 ∧ p.2 < q.2)
instance (p q : Co) : Decidable (lt p q) := inferInstanceAs (Decidable (_ ∨ _))
def ln (t : Co → Co → L) (u v : Co) : List Co := if lt v u then (wk t v u).reverse else wk t u v
def Full (t : Co → Co → L) (w h : Int) : Prop := ∀ n, Cn t w h n

theorem path_vert {s : Int} (hs : s = 1 ∨ s = -1) {p q : Co} {l : List Co} (P : Path s p q l) (h : p.1 = q.1) : Path (-s) q p l.reverse := by
  have app : ∀ (a b z : Co) (l : List Co), Path (-s) a b l → z = (b.1, b.2 + (-s)) → Path (-s) a z (l ++ [z]) := by
    intro a b z l Q e
    induction Q with
    | one a => subst e; exact .steep (.one _)
    | east Q ih => exact .east (ih e)
    | steep Q ih => exact .steep (ih e)
  induction P with
  | one p => exact .one p
  | @east p q l P ih => have := P.bounds hs _ P.mem_end; simp only at this; omega
  | @steep p q l P ih =>
    have i := ih h
    rw [List.reverse_cons]
    exact app _ _ _ _ i (by apply co_ext <;> simp only <;> omega)
theorem path_vert_one {s : Int} (hs : s = 1 ∨ s = -1) {p q : Co} {l l' : List Co} (P : Path s p q l) (Q : Path s p q l') (h : p.1 = q.1) : l = l' := by
  have e : s * s = 1 := by rcases hs with rfl | rfl <;> decide
  induction P generalizing l' with
  | one p =>
    cases Q with
    | one => rfl
    | east Q => have := Q.bounds hs _ Q.mem_end; simp only at this; omega
    | steep Q => have := Q.bounds hs _ Q.mem_end; simp only [Int.mul_add, e] at this; omega
  | @east p q l P ih => have := P.bounds hs _ P.mem_end; simp only at this; omega
  | @steep p q l P ih =>
    cases Q with
    | one => have := P.bounds hs _ P.mem_end; simp only [Int.mul_add, e] at this; omega
    | east Q => have := Q.bounds hs _ Q.mem_end; simp only at this; omega
    | steep Q => rw [ih Q h]

section
variable {t : Co → Co → L} {w h : Int} {u v z y p q : Co}

theorem wk_flip (c : Full t w h) (hp : onB w h p) (hq : onB w h q) (e : p.1 = q.1) : wk t p q = (wk t q p).reverse := by
  obtain ⟨s, hs, H⟩ := half_of (p := p) (q := q) (by omega)
  have P := wkP (c (dist p q + 1)) hs hp hq H (by omega)
  have H' : Half (-s) q p := by
    refine ⟨by omega, ?_⟩
    have := H.2
    rcases hs with rfl | rfl <;> omega
  have hs' : -s = 1 ∨ -s = -1 := by omega
  have Q := wkP (c (dist q p + 1)) hs' hq hp H' (by omega)
  have Q' := path_vert hs' Q e.symm
  rw [Int.neg_neg] at Q'
  exact path_vert_one hs P Q' e
theorem lt_irr : ¬ lt u u := by unfold lt; omega
theorem lt_or (hne : u ≠ v) : lt u v ∨ lt v u := by
  unfold lt
  by_cases e : u.1 = v.1
  · have : u.2 ≠ v.2 := fun q => hne (co_ext e q)
    omega
  · omega
theorem lt_not (h : lt u v) : ¬ lt v u := by unfold lt at *; omega
theorem ln_self : ln t u u = [u] := by unfold ln; rw [if_neg lt_irr, wk_self]
theorem ln_rev : ln t v u = (ln t u v).reverse := by
  by_cases e : u = v
  · subst e; rw [ln_self]; rfl
  · unfold ln
    rcases lt_or e with g | g
    · rw [if_pos g, if_neg (lt_not g)]
    · rw [if_neg (lt_not g), if_pos g, List.reverse_reverse]
/-- a walk from west to east, a vertical one in any direction, is the line -/
theorem ln_wk (c : Full t w h) (hp : onB w h p) (hq : onB w h q) (e : p.1 ≤ q.1) : ln t p q = wk t p q := by
  unfold ln
  by_cases g : lt q p
  · rw [if_pos g]
    have : p.1 = q.1 := by unfold lt at g; omega
    rw [wk_flip c hp hq this]
  · rw [if_neg g]
theorem ln_kw (c : Full t w h) (hp : onB w h p) (hq : onB w h q) (e : p.1 ≤ q.1) : ln t q p = (wk t p q).reverse := by
  rw [ln_rev, ln_wk c hp hq e]
theorem ln_mem_comm : z ∈ ln t u v ↔ z ∈ ln t v u := by rw [ln_rev, List.mem_reverse]
theorem ln_on (c : Full t w h) (hu : onB w h u) (hv : onB w h v) (hz : z ∈ ln t u v) : onB w h z := by
  by_cases e : u.1 ≤ v.1
  · rw [ln_wk c hu hv e] at hz
    obtain ⟨s, hs, H⟩ := half_of e
    exact path_on hs (wkP (c (dist u v + 1)) hs hu hv H (by omega)) hu hv z hz
  · have e' : v.1 ≤ u.1 := by omega
    rw [ln_kw c hv hu e', List.mem_reverse] at hz
    obtain ⟨s, hs, H⟩ := half_of e'
    exact path_on hs (wkP (c (dist v u + 1)) hs hv hu H (by omega)) hv hu z hz
theorem dist_comm : dist p q = dist q p := by unfold dist; omega
theorem ln_dist (c : Full t w h) (hu : onB w h u) (hv : onB w h v) (hz : z ∈ ln t u v) : dist u z + dist z v = dist u v := by
  by_cases e : u.1 ≤ v.1
  · rw [ln_wk c hu hv e] at hz
    obtain ⟨s, hs, H⟩ := half_of e
    exact (path_halves hs (wkP (c (dist u v + 1)) hs hu hv H (by omega)) hz).2.2
  · have e' : v.1 ≤ u.1 := by omega
    rw [ln_kw c hv hu e', List.mem_reverse] at hz
    obtain ⟨s, hs, H⟩ := half_of e'
    have := (path_halves hs (wkP (c (dist v u + 1)) hs hv hu H (by omega)) hz).2.2
    rw [dist_comm (p := u), dist_comm (p := z) (q := v), dist_comm (p := u) (q := v)]
    omega
theorem ln_len (c : Full t w h) (hu : onB w h u) (hv : onB w h v) : (ln t u v).length = dist u v + 1 := by
  by_cases e : u.1 ≤ v.1
  · rw [ln_wk c hu hv e]
    obtain ⟨s, hs, H⟩ := half_of e
    exact wk_len (c (dist u v + 1)) hs hu hv H (by omega)
  · have e' : v.1 ≤ u.1 := by omega
    rw [ln_kw c hv hu e', List.length_reverse]
    obtain ⟨s, hs, H⟩ := half_of e'
    rw [wk_len (c (dist v u + 1)) hs hv hu H (by omega), dist_comm]
theorem wk_head (c : Full t w h) (hp : onB w h p) (hq : onB w h q) (e : p.1 ≤ q.1) : ∃ r, wk t p q = p :: r := by
  obtain ⟨s, hs, H⟩ := half_of e
  exact (wkP (c (dist p q + 1)) hs hp hq H (by omega)).head
theorem wk_last (c : Full t w h) (hp : onB w h p) (hq : onB w h q) (e : p.1 ≤ q.1) : ∃ r, wk t p q = r ++ [q] := by
  obtain ⟨s, hs, H⟩ := half_of e
  have P := wkP (c (dist p q + 1)) hs hp hq H (by omega)
  exact ⟨(wk t p q).dropLast, by
    have := List.dropLast_concat_getLast P.ne_nil
    rw [path_last P] at this
    exact this.symm⟩
theorem ln_head (c : Full t w h) (hu : onB w h u) (hv : onB w h v) : ∃ r, ln t u v = u :: r := by
  by_cases e : u.1 ≤ v.1
  · rw [ln_wk c hu hv e]; exact wk_head c hu hv e
  · have e' : v.1 ≤ u.1 := by omega
    rw [ln_kw c hv hu e']
    obtain ⟨r, hr⟩ := wk_last c hv hu e'
    rw [hr]; exact ⟨r.reverse, by simp⟩
theorem ln_last (c : Full t w h) (hu : onB w h u) (hv : onB w h v) : ∃ r, ln t u v = r ++ [v] := by
  obtain ⟨r, hr⟩ := ln_head c hv hu
  exact ⟨r.reverse, by rw [ln_rev, hr, List.reverse_cons]⟩
theorem ln_start (c : Full t w h) (hu : onB w h u) (hv : onB w h v) : u ∈ ln t u v := by
  obtain ⟨r, hr⟩ := ln_head c hu hv; rw [hr]; simp
theorem ln_end (c : Full t w h) (hu : onB w h u) (hv : onB w h v) : v ∈ ln t u v := by
  obtain ⟨r, hr⟩ := ln_last c hu hv; rw [hr]; simp
/-- a line through z is the line to z and the line from z -/
theorem ln_split (c : Full t w h) (hu : onB w h u) (hv : onB w h v) (hz : z ∈ ln t u v) : ln t u v = ln t u z ++ (ln t z v).tail := by
  have hzo := ln_on c hu hv hz
  have key : ∀ u v : Co, onB w h u → onB w h v → u.1 ≤ v.1 → z ∈ wk t u v → u.1 ≤ z.1 ∧ z.1 ≤ v.1 ∧ wk t u v = wk t u z ++ (wk t z v).tail := by
    intro u v hu hv e hz
    obtain ⟨s, hs, H⟩ := half_of e
    have P := wkP (c (dist u v + 1)) hs hu hv H (by omega)
    have b := P.bounds hs z hz
    exact ⟨b.1, b.2.1, wk_split (c (dist u v + 1)) hs _ u v rfl hu hv H (by omega) z hz⟩
  by_cases e : u.1 ≤ v.1
  · have hz' := hz
    rw [ln_wk c hu hv e] at hz'
    obtain ⟨k1, k2, k3⟩ := key u v hu hv e hz'
    rw [ln_wk c hu hv e, ln_wk c hu hzo k1, ln_wk c hzo hv k2]
    exact k3
  · have e' : v.1 ≤ u.1 := by omega
    have hz' := hz
    rw [ln_kw c hv hu e', List.mem_reverse] at hz'
    obtain ⟨k1, k2, k3⟩ := key v u hv hu e' hz'
    rw [ln_kw c hv hu e', ln_kw c hzo hu k2, ln_kw c hv hzo k1, k3]
    obtain ⟨r, hr⟩ := wk_head c hzo hu k2
    obtain ⟨r2, hr2⟩ := wk_last c hv hzo k1
    rw [hr, hr2]
    simp
theorem ln_part1 (c : Full t w h) (hu : onB w h u) (hv : onB w h v) (hz : z ∈ ln t u v) (hy : y ∈ ln t u z) : y ∈ ln t u v := by
  rw [ln_split c hu hv hz]
  exact List.mem_append_left _ hy
theorem ln_part2 (c : Full t w h) (hu : onB w h u) (hv : onB w h v) (hz : z ∈ ln t u v) (hy : y ∈ ln t z v) : y ∈ ln t u v := by
  rw [ln_mem_comm] at hz hy ⊢
  exact ln_part1 c hv hu hz hy
/-- two corners of a line, in its order -/
theorem ln_order (c : Full t w h) (hu : onB w h u) (hv : onB w h v) (hz : z ∈ ln t u v) (hy : y ∈ ln t u v) (hd : dist u z ≤ dist u y) : z ∈ ln t u y ∧ y ∈ ln t z v := by
  have hzo := ln_on c hu hv hz
  have hyo := ln_on c hu hv hy
  have d1 := ln_dist c hu hv hz
  have d2 := ln_dist c hu hv hy
  constructor
  · rw [ln_split c hu hv hy] at hz
    rcases List.mem_append.mp hz with g | g
    · exact g
    · have g' := List.mem_of_mem_tail g
      have d3 := ln_dist c hyo hv g'
      have : dist y z = 0 := by omega
      have := dist_zero this
      rw [← this]
      exact ln_end c hu hyo
  · rw [ln_split c hu hv hz] at hy
    rcases List.mem_append.mp hy with g | g
    · have d3 := ln_dist c hu hzo g
      have : dist y z = 0 := by omega
      have := dist_zero this
      rw [this]
      exact ln_start c hzo hv
    · exact List.mem_of_mem_tail g
theorem ln_nodup (c : Full t w h) (hu : onB w h u) (hv : onB w h v) : (ln t u v).Nodup := by
  have key : ∀ {s : Int} (_ : s = 1 ∨ s = -1) {p q : Co} {l : List Co}, Path s p q l → l.Nodup := by
    intro s hs p q l P
    have e : s * s = 1 := by rcases hs with rfl | rfl <;> decide
    induction P with
    | one => simp
    | east P ih =>
      refine List.nodup_cons.mpr ⟨fun g => ?_, ih⟩
      have := P.bounds hs _ g; simp only at this; omega
    | steep P ih =>
      refine List.nodup_cons.mpr ⟨fun g => ?_, ih⟩
      have := P.bounds hs _ g; simp only [Int.mul_add, e] at this; omega
  by_cases e : u.1 ≤ v.1
  · rw [ln_wk c hu hv e]
    obtain ⟨s, hs, H⟩ := half_of e
    exact key hs (wkP (c (dist u v + 1)) hs hu hv H (by omega))
  · have e' : v.1 ≤ u.1 := by omega
    rw [ln_kw c hv hu e']
    obtain ⟨s, hs, H⟩ := half_of e'
    unfold List.Nodup
    rw [List.pairwise_reverse]
    exact (key hs (wkP (c (dist v u + 1)) hs hv hu H (by omega))).imp fun h => h.symm

/-! ### the line upwards -/
theorem up_cases (c : Full t w h) (hu : onB w h u) (hv : onB w h v) (e : u.2 ≤ v.2) :
    (Path 1 u v (ln t u v)) ∨ (∃ l, Path (-1) v u l ∧ ln t u v = l.reverse) := by
  by_cases g : u.1 ≤ v.1
  · left
    rw [ln_wk c hu hv g]
    exact wkP (c (dist u v + 1)) (.inl rfl) hu hv ⟨g, by omega⟩ (by omega)
  · right
    refine ⟨wk t v u, wkP (c (dist v u + 1)) (.inr rfl) hv hu ⟨by omega, by omega⟩ (by omega), ln_kw c hv hu (by omega)⟩
theorem ln_row (c : Full t w h) (hu : onB w h u) (hv : onB w h v) (e : u.2 ≤ v.2) (x1 x2 x k : Int) (h1 : (x1, k) ∈ ln t u v) (h2 : (x2, k) ∈ ln t u v) (a : x1 ≤ x) (b : x ≤ x2) : (x, k) ∈ ln t u v := by
  rcases up_cases c hu hv e with P | ⟨l, P, el⟩
  · exact P.row (.inl rfl) x1 x2 x k h1 h2 a b
  · rw [el, List.mem_reverse] at h1 h2 ⊢
    exact P.row (.inr rfl) x1 x2 x k h1 h2 a b
theorem ln_bounds (c : Full t w h) (hu : onB w h u) (hv : onB w h v) (e : u.2 ≤ v.2) (hz : z ∈ ln t u v) : u.2 ≤ z.2 ∧ z.2 ≤ v.2 := by
  rcases up_cases c hu hv e with P | ⟨l, P, el⟩
  · have := P.bounds (.inl rfl) z hz; omega
  · rw [el, List.mem_reverse] at hz
    have := P.bounds (.inr rfl) z hz; omega
theorem ln_cross (c : Full t w h) (hu : onB w h u) (hv : onB w h v) (e : u.2 ≤ v.2) (k : Int) (h1 : u.2 ≤ k) (h2 : k < v.2) :
    ∃ x0, (x0, k) ∈ ln t u v ∧ (x0, k + 1) ∈ ln t u v ∧ ∀ x, W (ln t u v) (x, k) = if x < x0 then 1 else 0 := by
  rcases up_cases c hu hv e with P | ⟨l, P, el⟩
  · exact P.cross (.inl rfl) k (by omega) (by omega)
  · obtain ⟨x0, a, b, d⟩ := P.cross (.inr rfl) k (by omega) (by omega)
    refine ⟨x0, by rw [el, List.mem_reverse]; exact a, by rw [el, List.mem_reverse]; exact b, fun x => ?_⟩
    rw [el, W_rev, d]
    split <;> rfl
theorem ln_flat (c : Full t w h) (hu : onB w h u) (hv : onB w h v) (e : u.2 ≤ v.2) (k : Int) (h1 : k < u.2 ∨ v.2 ≤ k) (x : Int) : W (ln t u v) (x, k) = 0 := by
  rcases up_cases c hu hv e with P | ⟨l, P, el⟩
  · exact P.flat (.inl rfl) k (by omega) x
  · rw [el, W_rev, P.flat (.inr rfl) k (by omega) x]; rfl
theorem ln_cross_one (c : Full t w h) (hu : onB w h u) (hv : onB w h v) (e : u.2 ≤ v.2) {x x' k : Int}
    (a : (x, k) ∈ ln t u v) (b : (x, k + 1) ∈ ln t u v) (a' : (x', k) ∈ ln t u v) (b' : (x', k + 1) ∈ ln t u v) : x = x' := by
  rcases up_cases c hu hv e with P | ⟨l, P, el⟩
  · exact P.cross_one (.inl rfl) a b a' b'
  · rw [el, List.mem_reverse] at a b a' b'
    exact P.cross_one (.inr rfl) a b a' b'
theorem W_ln_rev (z : Co) : W (ln t v u) z = - W (ln t u v) z := by rw [ln_rev, W_rev]
theorem W_ln_split (c : Full t w h) (hu : onB w h u) (hv : onB w h v) (hz : z ∈ ln t u v) (x : Co) : W (ln t u v) x = W (ln t u z) x + W (ln t z v) x := by
  have hzo := ln_on c hu hv hz
  obtain ⟨r, hr⟩ := ln_head c hzo hv
  obtain ⟨r2, hr2⟩ := ln_last c hu hzo
  have := ln_split c hu hv hz
  rw [hr, hr2] at this
  rw [this, hr, hr2, List.append_assoc]
  exact W_app z _ x r2
end
end Tri
end
section
/-! Triangles: one sign. -/
set_option autoImplicit false
namespace Tri

/-- two shapes with full rows, each with a step at each height from y + 1 to m: one left of the other above y, right of it at m: they share a corner -/
theorem abs_side (L1 L2 : Int → Int → Prop)
    (r1 : ∀ k x1 x2 x, L1 x1 k → L1 x2 k → x1 ≤ x → x ≤ x2 → L1 x k) (r2 : ∀ k x1 x2 x, L2 x1 k → L2 x2 k → x1 ≤ x → x ≤ x2 → L2 x k) (M e m : Int)
    (hM : L1 M m) (he : L2 e m) (hMe : M < e) : ∀ (d : Nat) (y a b : Int), y + d = m → (∀ k, y ≤ k → k < m → ∃ x, L1 x k ∧ L1 x (k + 1)) → (∀ k, y ≤ k → k < m → ∃ x, L2 x k ∧ L2 x (k + 1)) →
      L1 a y → L2 b y → b < a → ∃ x k, y ≤ k ∧ k ≤ m ∧ L1 x k ∧ L2 x k
  | 0, y, a, b, hd, _, _, ha, hb, hba => by
    have : y = m := by omega
    subst this
    by_cases g : a ≤ e
    · exact ⟨a, y, by omega, by omega, ha, r2 y b e a hb he (by omega) g⟩
    · exact ⟨e, y, by omega, by omega, r1 y M a e hM ha (by omega) (by omega), he⟩
  | d + 1, y, a, b, hd, c1, c2, ha, hb, hba => by
    obtain ⟨x1, p1, p2⟩ := c1 y (by omega) (by omega)
    obtain ⟨x2, q1, q2⟩ := c2 y (by omega) (by omega)
    -- either a common corner in row y, or all of the first right of the second
    by_cases g : x2 < x1
    · obtain ⟨x, k, h1, h2, h3, h4⟩ := abs_side L1 L2 r1 r2 M e m hM he hMe d (y + 1) x1 x2 (by omega) (fun k h1 h2 => c1 k (by omega) h2) (fun k h1 h2 => c2 k (by omega) h2) p2 q2 g
      exact ⟨x, k, by omega, h2, h3, h4⟩
    · -- x1 ≤ x2, b < a: the rows meet
      by_cases g2 : a ≤ x2
      · exact ⟨a, y, by omega, by omega, ha, r2 y b x2 a hb q1 (by omega) g2⟩
      · exact ⟨x2, y, by omega, by omega, r1 y x1 a x2 p1 ha (by omega) (by omega), q1⟩

section
variable {t : Co → Co → L} {w h : Int} {p q r B M T z y : Co}

/-- a corner on all three lines is the only one -/
theorem meet_one (c : Full t w h) (hp : onB w h p) (hq : onB w h q) (hr : onB w h r)
    (a1 : z ∈ ln t p q) (a2 : z ∈ ln t q r) (a3 : z ∈ ln t r p) (b1 : y ∈ ln t p q) (b2 : y ∈ ln t q r) (b3 : y ∈ ln t r p) : z = y := by
  -- z nearer to p
  have key : ∀ z y : Co, z ∈ ln t p q → z ∈ ln t q r → z ∈ ln t r p → y ∈ ln t p q → y ∈ ln t q r → y ∈ ln t r p → dist p z ≤ dist p y → z = y := by
    intro z y a1 a2 a3 b1 b2 b3 hd
    have hz := ln_on c hp hq a1
    have hy := ln_on c hp hq b1
    have d1 := ln_dist c hp hq a1
    have d2 := ln_dist c hp hq b1
    have d3 := ln_dist c hq hr a2
    have d4 := ln_dist c hq hr b2
    have d5 := ln_dist c hr hp a3
    have d6 := ln_dist c hr hp b3
    have s1 := dist_comm (p := p) (q := z)
    have s2 := dist_comm (p := p) (q := y)
    have s3 := dist_comm (p := z) (q := q)
    have s4 := dist_comm (p := y) (q := q)
    have s5 := dist_comm (p := z) (q := r)
    have s6 := dist_comm (p := y) (q := r)
    -- on r - p: y is nearer to r; on q - r: y nearer to q, so z nearer to r
    have e1 := (ln_order c hr hp b3 a3 (by omega)).1
    have e2 := (ln_order c hq hr b2 a2 (by omega)).2
    have f1 := ln_dist c hr hz e1
    have f2 := ln_dist c hy hr e2
    have s7 := dist_comm (p := z) (q := y)
    have : dist z y = 0 := by omega
    exact dist_zero this
  by_cases g : dist p z ≤ dist p y
  · exact key z y a1 a2 a3 b1 b2 b3 g
  · exact (key y z b1 b2 b3 a1 a2 a3 (by omega)).symm

/-- the winding of the three lines at a cell -/
def Om (t : Co → Co → L) (p q r x : Co) : Int := W (ln t p q) x + W (ln t q r) x + W (ln t r p) x
theorem Om_cyc (x : Co) : Om t q r p x = Om t p q r x := by unfold Om; omega
theorem Om_swap (x : Co) : Om t q p r x = - Om t p q r x := by
  unfold Om
  rw [W_ln_rev (u := p) (v := q), W_ln_rev (u := r) (v := p), W_ln_rev (u := q) (v := r)]; omega
theorem meet_zero (c : Full t w h) (hp : onB w h p) (hq : onB w h q) (hr : onB w h r) (a1 : z ∈ ln t p q) (a2 : z ∈ ln t q r) (a3 : z ∈ ln t r p) (x : Co) : Om t p q r x = 0 := by
  unfold Om
  rw [W_ln_split c hp hq a1, W_ln_split c hq hr a2, W_ln_split c hr hp a3, W_ln_rev (u := p) (v := z), W_ln_rev (u := q) (v := z), W_ln_rev (u := r) (v := z)]
  omega

/-- two lines up from B: where they part they stay apart -/
theorem side_up (c : Full t w h) (hB : onB w h B) (hM : onB w h M) (hT : onB w h T) (e1 : B.2 ≤ M.2) (e2 : M.2 ≤ T.2) {L1 L2 : Co} (hL1 : L1 = M ∧ L2 = T ∨ L1 = T ∧ L2 = M) {m1 m2 : Int}
    (o1 : (m1, M.2) ∈ ln t B L1) (o2 : (m2, M.2) ∈ ln t B L2) (hm : m1 < m2) {k x1 x2 : Int} (h1 : B.2 ≤ k) (h2 : k < M.2)
    (p1 : (x1, k) ∈ ln t B L1) (q1 : (x1, k + 1) ∈ ln t B L1) (p2 : (x2, k) ∈ ln t B L2) (q2 : (x2, k + 1) ∈ ln t B L2) : x1 ≤ x2 := by
  have l1 : onB w h L1 ∧ M.2 ≤ L1.2 := by rcases hL1 with ⟨rfl, _⟩ | ⟨rfl, _⟩ <;> exact ⟨by assumption, by omega⟩
  have l2 : onB w h L2 ∧ M.2 ≤ L2.2 := by rcases hL1 with ⟨_, rfl⟩ | ⟨_, rfl⟩ <;> exact ⟨by assumption, by omega⟩
  by_cases g : x1 ≤ x2
  · exact g
  exfalso
  obtain ⟨x, k', a1, a2, a3, a4⟩ := abs_side (fun x k => (x, k) ∈ ln t B L1) (fun x k => (x, k) ∈ ln t B L2)
    (fun k x1 x2 x => ln_row c hB l1.1 (by omega) x1 x2 x k) (fun k x1 x2 x => ln_row c hB l2.1 (by omega) x1 x2 x k) m1 m2 M.2 o1 o2 hm (M.2 - (k + 1)).toNat (k + 1) x1 x2 (by omega)
    (fun k' a b => by obtain ⟨x, u, v, _⟩ := ln_cross c hB l1.1 (by omega) k' (by omega) (by omega); exact ⟨x, u, v⟩)
    (fun k' a b => by obtain ⟨x, u, v, _⟩ := ln_cross c hB l2.1 (by omega) k' (by omega) (by omega); exact ⟨x, u, v⟩) q1 q2 (by omega)
  have ho := ln_on c hB l1.1 a3
  obtain ⟨x0, u, v, _⟩ := ln_cross c hB ho (by simp only; omega) k h1 (by simp only; omega)
  have z1 := ln_cross_one c hB l1.1 (by omega) p1 q1 (ln_part1 c hB l1.1 a3 u) (ln_part1 c hB l1.1 a3 v)
  have z2 := ln_cross_one c hB l2.1 (by omega) p2 q2 (ln_part1 c hB l2.1 a4 u) (ln_part1 c hB l2.1 a4 v)
  omega
/-- two lines up to T -/
theorem side_down (c : Full t w h) (hB : onB w h B) (hM : onB w h M) (hT : onB w h T) (e1 : B.2 ≤ M.2) (e2 : M.2 ≤ T.2) {L1 L2 : Co} (hL1 : L1 = M ∧ L2 = B ∨ L1 = B ∧ L2 = M) {m1 m2 : Int}
    (o1 : (m1, M.2) ∈ ln t L1 T) (o2 : (m2, M.2) ∈ ln t L2 T) (hm : m1 < m2) {k x1 x2 : Int} (h1 : M.2 ≤ k) (h2 : k < T.2)
    (p1 : (x1, k) ∈ ln t L1 T) (q1 : (x1, k + 1) ∈ ln t L1 T) (p2 : (x2, k) ∈ ln t L2 T) (q2 : (x2, k + 1) ∈ ln t L2 T) : x1 ≤ x2 := by
  have l1 : onB w h L1 ∧ L1.2 ≤ M.2 := by rcases hL1 with ⟨rfl, _⟩ | ⟨rfl, _⟩ <;> exact ⟨by assumption, by omega⟩
  have l2 : onB w h L2 ∧ L2.2 ≤ M.2 := by rcases hL1 with ⟨_, rfl⟩ | ⟨_, rfl⟩ <;> exact ⟨by assumption, by omega⟩
  by_cases g : x1 ≤ x2
  · exact g
  exfalso
  obtain ⟨x, k', a1, a2, a3, a4⟩ := abs_side (fun x k => (x, -k) ∈ ln t L1 T) (fun x k => (x, -k) ∈ ln t L2 T)
    (fun k x1 x2 x => ln_row c l1.1 hT (by omega) x1 x2 x (-k)) (fun k x1 x2 x => ln_row c l2.1 hT (by omega) x1 x2 x (-k)) m1 m2 (-M.2) (by rw [Int.neg_neg]; exact o1) (by rw [Int.neg_neg]; exact o2) hm (k - M.2).toNat (-k) x1 x2 (by omega)
    (fun k' a b => by
      obtain ⟨x, u, v, _⟩ := ln_cross c l1.1 hT (by omega) (-(k' + 1)) (by omega) (by omega)
      exact ⟨x, by rw [show -k' = -(k' + 1) + 1 by omega]; exact v, u⟩)
    (fun k' a b => by
      obtain ⟨x, u, v, _⟩ := ln_cross c l2.1 hT (by omega) (-(k' + 1)) (by omega) (by omega)
      exact ⟨x, by rw [show -k' = -(k' + 1) + 1 by omega]; exact v, u⟩) (by rw [Int.neg_neg]; exact p1) (by rw [Int.neg_neg]; exact p2) (by omega)
  have ho := ln_on c l1.1 hT a3
  obtain ⟨x0, u, v, _⟩ := ln_cross c ho hT (by simp only; omega) k (by simp only; omega) h2
  have z1 := ln_cross_one c l1.1 hT (by omega) p1 q1 (ln_part2 c l1.1 hT a3 u) (ln_part2 c l1.1 hT a3 v)
  have z2 := ln_cross_one c l2.1 hT (by omega) p2 q2 (ln_part2 c l2.1 hT a4 u) (ln_part2 c l2.1 hT a4 v)
  omega

/-- in each row of a line there is a corner -/
theorem ln_at (c : Full t w h) (hB : onB w h B) (hT : onB w h T) (e : B.2 ≤ T.2) (k : Int) (h1 : B.2 ≤ k) (h2 : k ≤ T.2) : ∃ x, (x, k) ∈ ln t B T := by
  by_cases g : k < T.2
  · obtain ⟨x, u, _, _⟩ := ln_cross c hB hT e k h1 g
    exact ⟨x, u⟩
  · have : k = T.2 := by omega
    subst this
    exact ⟨T.1, ln_end c hB hT⟩
/-- one sign, the corners by height -/
theorem sign_sorted (c : Full t w h) (hB : onB w h B) (hM : onB w h M) (hT : onB w h T) (e1 : B.2 ≤ M.2) (e2 : M.2 ≤ T.2)
    (no : ∀ z, z ∈ ln t B M → z ∈ ln t M T → z ∈ ln t B T → False) :
    ∃ s : Int, (s = 1 ∨ s = -1) ∧ (∀ x k, Om t B M T (x, k) = 0 ∨ Om t B M T (x, k) = s) ∧ ∃ x k, 0 ≤ x ∧ x < w ∧ 0 ≤ k ∧ k < h ∧ Om t B M T (x, k) = s := by
  have e3 : B.2 ≤ T.2 := by omega
  obtain ⟨xe, he⟩ := ln_at c hB hT e3 M.2 e1 e2
  have hMB : (M.1, M.2) ∈ ln t B M := ln_end c hB hM
  have hMT : (M.1, M.2) ∈ ln t M T := ln_start c hM hT
  have hne : M.1 ≠ xe := fun z => no M hMB hMT (by rw [← z] at he; exact he)
  -- the winding of a band
  have low : ∀ k x1 x2, B.2 ≤ k → k < M.2 → (x1, k) ∈ ln t B M → (x1, k + 1) ∈ ln t B M → (x2, k) ∈ ln t B T → (x2, k + 1) ∈ ln t B T →
      ∀ x, Om t B M T (x, k) = (if x < x1 then 1 else 0) - (if x < x2 then 1 else 0) := by
    intro k x1 x2 h1 h2 p1 q1 p2 q2 x
    obtain ⟨y1, u1, v1, w1⟩ := ln_cross c hB hM e1 k h1 h2
    obtain ⟨y2, u2, v2, w2⟩ := ln_cross c hB hT e3 k h1 (by omega)
    have z1 := ln_cross_one c hB hM e1 p1 q1 u1 v1
    have z2 := ln_cross_one c hB hT e3 p2 q2 u2 v2
    unfold Om
    rw [w1, ln_flat c hM hT e2 k (.inl h2), W_ln_rev, w2, z1, z2]
    omega
  have high : ∀ k x1 x2, M.2 ≤ k → k < T.2 → (x1, k) ∈ ln t M T → (x1, k + 1) ∈ ln t M T → (x2, k) ∈ ln t B T → (x2, k + 1) ∈ ln t B T →
      ∀ x, Om t B M T (x, k) = (if x < x1 then 1 else 0) - (if x < x2 then 1 else 0) := by
    intro k x1 x2 h1 h2 p1 q1 p2 q2 x
    obtain ⟨y1, u1, v1, w1⟩ := ln_cross c hM hT e2 k h1 h2
    obtain ⟨y2, u2, v2, w2⟩ := ln_cross c hB hT e3 k (by omega) h2
    have z1 := ln_cross_one c hM hT e2 p1 q1 u1 v1
    have z2 := ln_cross_one c hB hT e3 p2 q2 u2 v2
    unfold Om
    rw [ln_flat c hB hM e1 k (.inr h1), w1, W_ln_rev, w2, z1, z2]
    omega
  have off : ∀ x k, k < B.2 ∨ T.2 ≤ k → Om t B M T (x, k) = 0 := by
    intro x k hk
    unfold Om
    rw [ln_flat c hB hM e1 k (by omega), ln_flat c hM hT e2 k (by omega), W_ln_rev, ln_flat c hB hT e3 k hk]
    rfl
  -- a band in which the lines differ
  have differ : ∃ k x1 x2, x1 ≠ x2 ∧ B.2 ≤ k ∧ k < T.2 ∧ ((k < M.2 ∧ (x1, k) ∈ ln t B M ∧ (x1, k + 1) ∈ ln t B M) ∨ (M.2 ≤ k ∧ (x1, k) ∈ ln t M T ∧ (x1, k + 1) ∈ ln t M T)) ∧ (x2, k) ∈ ln t B T ∧ (x2, k + 1) ∈ ln t B T := by
    apply Classical.byContradiction
    intro nd
    -- c: where B - T and B - M come into the row of M alike
    have hc : ∃ x, (x, M.2) ∈ ln t B M ∧ (x, M.2) ∈ ln t B T := by
      by_cases g : B.2 = M.2
      · exact ⟨B.1, by rw [← g]; exact ln_start c hB hM, by rw [← g]; exact ln_start c hB hT⟩
      · obtain ⟨y1, u1, v1, _⟩ := ln_cross c hB hM e1 (M.2 - 1) (by omega) (by omega)
        obtain ⟨y2, u2, v2, _⟩ := ln_cross c hB hT e3 (M.2 - 1) (by omega) (by omega)
        by_cases g2 : y1 = y2
        · rw [Int.sub_add_cancel] at v1 v2
          exact ⟨y1, v1, by rw [g2]; exact v2⟩
        · exact absurd ⟨M.2 - 1, y1, y2, g2, by omega, by omega, .inl ⟨by omega, u1, v1⟩, u2, v2⟩ nd
    have hc' : ∃ x, (x, M.2) ∈ ln t M T ∧ (x, M.2) ∈ ln t B T := by
      by_cases g : T.2 = M.2
      · exact ⟨T.1, by rw [← g]; exact ln_end c hM hT, by rw [← g]; exact ln_end c hB hT⟩
      · obtain ⟨y1, u1, v1, _⟩ := ln_cross c hM hT e2 M.2 (by omega) (by omega)
        obtain ⟨y2, u2, v2, _⟩ := ln_cross c hB hT e3 M.2 (by omega) (by omega)
        by_cases g2 : y1 = y2
        · exact ⟨y1, u1, by rw [g2]; exact u2⟩
        · exact absurd ⟨M.2, y1, y2, g2, by omega, by omega, .inr ⟨by omega, u1, v1⟩, u2, v2⟩ nd
    obtain ⟨a, a1, a2⟩ := hc
    obtain ⟨b, b1, b2⟩ := hc'
    -- the middle one of a, b, M
    have r1 := ln_row c hB hM e1
    have r2 := ln_row c hM hT e2
    have r3 := ln_row c hB hT e3
    have mid : ∃ x, (a ≤ x ∧ x ≤ b ∨ b ≤ x ∧ x ≤ a) ∧ (a ≤ x ∧ x ≤ M.1 ∨ M.1 ≤ x ∧ x ≤ a) ∧ (b ≤ x ∧ x ≤ M.1 ∨ M.1 ≤ x ∧ x ≤ b) := by
      by_cases c1 : a ≤ b
      · by_cases c2 : b ≤ M.1
        · exact ⟨b, by omega⟩
        · by_cases c3 : a ≤ M.1
          · exact ⟨M.1, by omega⟩
          · exact ⟨a, by omega⟩
      · by_cases c2 : a ≤ M.1
        · exact ⟨a, by omega⟩
        · by_cases c3 : b ≤ M.1
          · exact ⟨M.1, by omega⟩
          · exact ⟨b, by omega⟩
    obtain ⟨x, m1, m2, m3⟩ := mid
    refine no (x, M.2) ?_ ?_ ?_
    · rcases m2 with ⟨u, v⟩ | ⟨u, v⟩
      · exact r1 a M.1 x _ a1 hMB u v
      · exact r1 M.1 a x _ hMB a1 u v
    · rcases m3 with ⟨u, v⟩ | ⟨u, v⟩
      · exact r2 b M.1 x _ b1 hMT u v
      · exact r2 M.1 b x _ hMT b1 u v
    · rcases m1 with ⟨u, v⟩ | ⟨u, v⟩
      · exact r3 a b x _ a2 b2 u v
      · exact r3 b a x _ b2 a2 u v
  -- the order of the crossings
  obtain ⟨σ, hσ, ord⟩ : ∃ σ : Int, (σ = 1 ∨ σ = -1) ∧ ∀ k x1 x2, ((B.2 ≤ k ∧ k < M.2 ∧ (x1, k) ∈ ln t B M ∧ (x1, k + 1) ∈ ln t B M) ∨ (M.2 ≤ k ∧ k < T.2 ∧ (x1, k) ∈ ln t M T ∧ (x1, k + 1) ∈ ln t M T)) →
      (x2, k) ∈ ln t B T → (x2, k + 1) ∈ ln t B T → σ * x2 ≤ σ * x1 := by
    by_cases g : M.1 < xe
    · refine ⟨-1, .inr rfl, fun k x1 x2 hk p2 q2 => ?_⟩
      rcases hk with ⟨h1, h2, p1, q1⟩ | ⟨h1, h2, p1, q1⟩
      · have := side_up c hB hM hT e1 e2 (.inl ⟨rfl, rfl⟩) hMB he g h1 h2 p1 q1 p2 q2
        omega
      · have := side_down c hB hM hT e1 e2 (.inl ⟨rfl, rfl⟩) hMT he g h1 h2 p1 q1 p2 q2
        omega
    · have g' : xe < M.1 := by omega
      refine ⟨1, .inl rfl, fun k x1 x2 hk p2 q2 => ?_⟩
      rcases hk with ⟨h1, h2, p1, q1⟩ | ⟨h1, h2, p1, q1⟩
      · have := side_up c hB hM hT e1 e2 (.inr ⟨rfl, rfl⟩) he hMB g' h1 h2 p2 q2 p1 q1
        omega
      · have := side_down c hB hM hT e1 e2 (.inr ⟨rfl, rfl⟩) he hMT g' h1 h2 p2 q2 p1 q1
        omega
  have val : ∀ x1 x2 x : Int, σ * x2 ≤ σ * x1 → ((if x < x1 then 1 else 0) - (if x < x2 then 1 else 0) : Int) = 0 ∨ ((if x < x1 then 1 else 0) - (if x < x2 then 1 else 0) : Int) = σ := by
    intro x1 x2 x hx
    rcases hσ with rfl | rfl
    · split <;> split <;> omega
    · split <;> split <;> omega
  refine ⟨σ, hσ, fun x k => ?_, ?_⟩
  · by_cases hk : k < B.2 ∨ T.2 ≤ k
    · exact .inl (off x k hk)
    · obtain ⟨x2, p2, q2, _⟩ := ln_cross c hB hT e3 k (by omega) (by omega)
      by_cases hk2 : k < M.2
      · obtain ⟨x1, p1, q1, _⟩ := ln_cross c hB hM e1 k (by omega) hk2
        rw [low k x1 x2 (by omega) hk2 p1 q1 p2 q2 x]
        exact val x1 x2 x (ord k x1 x2 (.inl ⟨by omega, hk2, p1, q1⟩) p2 q2)
      · obtain ⟨x1, p1, q1, _⟩ := ln_cross c hM hT e2 k (by omega) (by omega)
        rw [high k x1 x2 (by omega) (by omega) p1 q1 p2 q2 x]
        exact val x1 x2 x (ord k x1 x2 (.inr ⟨by omega, by omega, p1, q1⟩) p2 q2)
  · obtain ⟨k, x1, x2, hx, h1, h2, h3, p2, q2⟩ := differ
    have ov := ln_on c hB hT p2
    have ov' := ln_on c hB hT q2
    unfold onB at ov ov'
    simp only at ov ov'
    rcases h3 with ⟨h3, p1, q1⟩ | ⟨h3, p1, q1⟩
    · have ou := ln_on c hB hM p1
      unfold onB at ou
      simp only at ou
      have o := ord k x1 x2 (.inl ⟨h1, h3, p1, q1⟩) p2 q2
      refine ⟨min x1 x2, k, by omega, by omega, by omega, by omega, ?_⟩
      rw [low k x1 x2 h1 h3 p1 q1 p2 q2]
      rcases hσ with rfl | rfl
      · split <;> split <;> omega
      · split <;> split <;> omega
    · have ou := ln_on c hM hT p1
      unfold onB at ou
      simp only at ou
      have o := ord k x1 x2 (.inr ⟨h3, h2, p1, q1⟩) p2 q2
      refine ⟨min x1 x2, k, by omega, by omega, by omega, by omega, ?_⟩
      rw [high k x1 x2 h3 h2 p1 q1 p2 q2]
      rcases hσ with rfl | rfl
      · split <;> split <;> omega
      · split <;> split <;> omega

/-- what is said of three corners -/
def OneSign (t : Co → Co → L) (w h : Int) (p q r : Co) : Prop :=
  ∃ s : Int, (s = 1 ∨ s = -1) ∧ (∀ x k, Om t p q r (x, k) = 0 ∨ Om t p q r (x, k) = s) ∧ ∃ x k, 0 ≤ x ∧ x < w ∧ 0 ≤ k ∧ k < h ∧ Om t p q r (x, k) = s
theorem OneSign.cyc (o : OneSign t w h p q r) : OneSign t w h q r p := by
  obtain ⟨s, h1, h2, x, k, a, b, c, d, e⟩ := o
  exact ⟨s, h1, fun x k => by rw [Om_cyc]; exact h2 x k, x, k, a, b, c, d, by rw [Om_cyc]; exact e⟩
theorem OneSign.swap (o : OneSign t w h p q r) : OneSign t w h q p r := by
  obtain ⟨s, h1, h2, x, k, a, b, c, d, e⟩ := o
  refine ⟨-s, by omega, fun x k => ?_, x, k, a, b, c, d, ?_⟩
  · rw [Om_swap]; have := h2 x k; omega
  · rw [Om_swap]; omega
theorem one_sign (c : Full t w h) (hp : onB w h p) (hq : onB w h q) (hr : onB w h r) (no : ∀ z, z ∈ ln t p q → z ∈ ln t q r → z ∈ ln t r p → False) : OneSign t w h p q r := by
  have S : ∀ a b d : Co, onB w h a → onB w h b → onB w h d → a.2 ≤ b.2 → b.2 ≤ d.2 → (∀ z, z ∈ ln t a b → z ∈ ln t b d → z ∈ ln t a d → False) → OneSign t w h a b d :=
    fun a b d ha hb hd e1 e2 n => sign_sorted c ha hb hd e1 e2 n
  have cm := fun (u v z : Co) => (ln_mem_comm (t := t) (u := u) (v := v) (z := z)).mp
  by_cases h1 : p.2 ≤ q.2
  · by_cases h2 : q.2 ≤ r.2
    · exact S p q r hp hq hr h1 h2 fun z a b d => no z a b (cm _ _ _ d)
    · by_cases h3 : p.2 ≤ r.2
      · -- p r q
        exact (S p r q hp hr hq h3 (by omega) fun z a b d => no z d (cm _ _ _ b) (cm _ _ _ a)).swap.cyc
      · -- r p q
        exact (S r p q hr hp hq (by omega) h1 fun z a b d => no z b (cm _ _ _ d) a).cyc
  · by_cases h2 : p.2 ≤ r.2
    · -- q p r
      exact (S q p r hq hp hr (by omega) h2 fun z a b d => no z (cm _ _ _ a) d (cm _ _ _ b)).swap
    · by_cases h3 : q.2 ≤ r.2
      · -- q r p
        exact (S q r p hq hr hp h3 (by omega) fun z a b d => no z (cm _ _ _ d) a b).cyc.cyc
      · -- r q p
        exact (S r q p hr hq hp (by omega) (by omega) fun z a b d => no z (cm _ _ _ b) (cm _ _ _ a) d).swap.cyc.cyc
end
end Tri
end
section
set_option maxHeartbeats 4000000
/-! Data over the abstract heap. -/
namespace Cp
open PySem PySem.Spec PyProof.Rows L2 LamX

/-! ### extension: all but tables stays -/
/-- the one text of a lambda's name -/
def lamQ : Str := ("pairs_by_steps" : Str) ++ ".<locals>." ++ "<lambda>"
structure Tb (T : List (Addr × Str)) (H : Hp) : Prop where
  ok : ∀ p ∈ T, p.2 = lamQ
  tabs : Tabs T H
theorem Tb.ext {T : List (Addr × Str)} {H H' : Hp} (t : Tb T H) (e : ∀ b o, H b = some o → H' b = some o) : Tb T H' := ⟨t.ok, t.tabs.ext e⟩
structure Ex (H H' : Hp) : Prop where
  keep : ∀ b o, H b = some o → (∀ ps, o ≠ .tbl ps) → H' b = some o
  tbl : ∀ b ps, H b = some (.tbl ps) → ∃ qs, H' b = some (.tbl qs)
  tabs : ∀ T, Tb T H → Tb T H'
def Sub (H H' : Hp) : Prop := ∀ b o, H b = some o → H' b = some o
theorem Sub.ex {H H' : Hp} (s : Sub H H') : Ex H H' := ⟨fun b o e _ => s b o e, fun b ps e => ⟨ps, s b _ e⟩, fun _ t => t.ext s⟩
theorem Sub.refl (H : Hp) : Sub H H := fun _ _ e => e
theorem Sub.trans {H H1 H2 : Hp} (a : Sub H H1) (b : Sub H1 H2) : Sub H H2 := fun x o e => b x o (a x o e)
theorem Sub.new {H : Hp} {p : Addr} {o : HO} (h : H p = none) : Sub H (upd H p o) := fun b u e => by
  rw [upd_ne (ne_of_none e h)]; exact e
theorem Ex.refl (H : Hp) : Ex H H := (Sub.refl H).ex
theorem Ex.trans {H H1 H2 : Hp} (a : Ex H H1) (b : Ex H1 H2) : Ex H H2 := by
  refine ⟨fun x o e n => b.keep x o (a.keep x o e n) n, fun x ps e => ?_, fun T t => b.tabs T (a.tabs T t)⟩
  obtain ⟨qs, e1⟩ := a.tbl x ps e
  exact b.tbl x qs e1
theorem Ex.new {H : Hp} {p : Addr} {o : HO} (h : H p = none) : Ex H (upd H p o) := (Sub.new h).ex
theorem Ex.back {H H' : Hp} (e : Ex H H') {p : Addr} (h : H' p = none) : H p = none := by
  cases q : H p with
  | none => rfl
  | some o =>
    by_cases z : ∃ ps, o = .tbl ps
    · obtain ⟨ps, rfl⟩ := z
      obtain ⟨qs, e1⟩ := e.tbl p ps q
      rw [h] at e1; cases e1
    · have := e.keep p o q (fun ps k => z ⟨ps, k⟩)
      rw [h] at this; cases this

/-! ### dicts with nested keys -/
abbrev NK := NestedKey
section
variable (P : Program) (w : World)
def dictO (a : Addr) (es : List (NK × Addr × V)) : HO := .ext fun h => ∃ ys : List (NK × Addr × Value), Paired (fun (p : NK × Addr × V) (q : NK × Addr × Value) => p.1 = q.1 ∧ p.2.1 = q.2.1 ∧ RelV p.2.2 q.2.2) es ys ∧
  ∃ (o : Obj) (as : Array DictEntry) (ep : Nat), h.get? a = some o ∧ o.ExactDict ∧ o.data = .dict as ep ∧ as.toList = ys.map (entryOfKey (nestedKind P w))
theorem dictO_tbl {a : Addr} {es : List (NK × Addr × V)} (ps : Array Value) : dictO P w a es ≠ .tbl ps := fun z => by unfold dictO at z; cases z
theorem relV_some (v : V) : ∃ u, RelV v u := by
  cases v with
  | non => exact ⟨_, rfl⟩
  | bl b => exact ⟨_, rfl⟩
  | int i => exact ⟨.int i 0, 0, rfl⟩
  | str x => exact ⟨.str x 0, 0, rfl⟩
  | byt b => exact ⟨.bytes b 0, 0, rfl⟩
  | flt b => exact ⟨.float b 0, 0, rfl⟩
  | ref a => exact ⟨_, rfl⟩
  | ty n => exact ⟨_, rfl⟩
theorem dictO_code {a : Addr} {es : List (NK × Addr × V)} {q : Str} : CodeO a q ≠ dictO P w a es := fun z => by
  have ys : ∃ ys : List (NK × Addr × Value), Paired (fun (p : NK × Addr × V) (q : NK × Addr × Value) => p.1 = q.1 ∧ p.2.1 = q.2.1 ∧ RelV p.2.2 q.2.2) es ys := by
    induction es with
    | nil => exact ⟨[], .nil⟩
    | cons x es ih =>
      have : ∃ ys : List (NK × Addr × Value), Paired (fun (p : NK × Addr × V) (q : NK × Addr × Value) => p.1 = q.1 ∧ p.2.1 = q.2.1 ∧ RelV p.2.2 q.2.2) es ys := by
        clear z ih
        induction es with
        | nil => exact ⟨[], .nil⟩
        | cons x es ih =>
          obtain ⟨ys, h⟩ := ih
          obtain ⟨u, hu⟩ := relV_some x.2.2
          exact ⟨(x.1, x.2.1, u) :: ys, .cons ⟨rfl, rfl, hu⟩ h⟩
      obtain ⟨ys, h⟩ := this
      obtain ⟨u, hu⟩ := relV_some x.2.2
      exact ⟨(x.1, x.2.1, u) :: ys, .cons ⟨rfl, rfl, hu⟩ h⟩
  obtain ⟨ys, hy⟩ := ys
  unfold CodeO dictO at z
  injection z with z
  have g : ({ objs := Array.replicate (a + 1) { cls := .type "dict", data := .dict (ys.map (entryOfKey (nestedKind P w))).toArray } } : Heap).get? a = some { cls := .type "dict", data := .dict (ys.map (entryOfKey (nestedKind P w))).toArray } := by
    unfold Heap.get?
    simp
  have p := congrFun z ({ objs := Array.replicate (a + 1) { cls := .type "dict", data := .dict (ys.map (entryOfKey (nestedKind P w))).toArray } } : Heap)
  obtain ⟨oc, vs, t, h1, h2, _⟩ := p.mpr ⟨ys, hy, _, _, _, g, ⟨rfl, rfl, rfl⟩, rfl, by simp⟩
  rw [g] at h1
  cases h1
  cases h2
end

/-! ### data -/
inductive Dt where
  | non | bl (b : Bool) | int (i : Int) | str (x : Str)
  | tup (ds : List Dt) | lst (ds : List Dt) | dic (kvs : List (NK × Dt)) | obj (C : Addr) (fs : List (Str × Dt)) | scr (a : Addr) (ns : List Int)
mutual
def kd : NK → Dt
  | .none => .non
  | .num i => .int i
  | .text x => .str x
  | .tup ks => .tup (kds ks)
def kds : List NK → List Dt
  | [] => []
  | k :: ks => kd k :: kds ks
end
section
variable (P : Program) (w : World) (K : PySem.W.Frag) (H : Hp)
mutual
inductive Da : V → Dt → Prop
  | non : Da .non .non
  | bl (b : Bool) : Da (.bl b) (.bl b)
  | int (i : Int) : Da (.int i) (.int i)
  | str (x : Str) : Da (.str x) (.str x)
  | tup {a : Addr} {xs : List V} {ds : List Dt} : H a = some (.tup xs) → DaAll xs ds → Da (.ref a) (.tup ds)
  | lst {a : Addr} {xs : List V} {ds : List Dt} : H a = some (.lst xs) → DaAll xs ds → Da (.ref a) (.lst ds)
  | dic {a : Addr} {es : List (NK × Addr × V)} {kvs : List (NK × Dt)} : H a = some (dictO P w a es) → DaKvs es kvs → (es.map (·.1)).Nodup → es.length ≤ sizeLine → (a == sysModules) = false → Da (.ref a) (.dic kvs)
  | obj {a C dx : Addr} {fs : List (Str × V)} {gs : List (Str × Dt)} : H a = some (.ins C dx fs) → DaFs fs gs → Da (.ref a) (.obj C gs)
  | scr {a : Addr} {ns : List Int} : SqL K H a (ns.map V.int) → Da (.ref a) (.scr a ns)
inductive DaAll : List V → List Dt → Prop
  | nil : DaAll [] []
  | cons {v : V} {vs : List V} {d : Dt} {ds : List Dt} : Da v d → DaAll vs ds → DaAll (v :: vs) (d :: ds)
inductive DaKvs : List (NK × Addr × V) → List (NK × Dt) → Prop
  | nil : DaKvs [] []
  | cons {k : NK} {b : Addr} {x : V} {d : Dt} {es : List (NK × Addr × V)} {kvs : List (NK × Dt)} : Da (.ref b) (kd k) → k.depth ≤ 8 → Da x d → DaKvs es kvs → DaKvs ((k, b, x) :: es) ((k, d) :: kvs)
inductive DaFs : List (Str × V) → List (Str × Dt) → Prop
  | nil : DaFs [] []
  | cons {f : Str} {v : V} {d : Dt} {fs : List (Str × V)} {gs : List (Str × Dt)} : Da v d → DaFs fs gs → DaFs ((f, v) :: fs) ((f, d) :: gs)
end
end
section
variable {P : Program} {w : World} {K : PySem.W.Frag} {H H' : Hp}
/-- what the data leans on: lists, tuples, dicts, instances, locked things -/
def DOk (o : HO) : Prop := (∃ xs, o = .tup xs) ∨ (∃ xs, o = .lst xs) ∨ (∃ P w a es, o = dictO P w a es) ∨ (∃ C dx fs, o = .ins C dx fs) ∨ ∃ ob u, o = .frz ob u
theorem DOk.ntbl {o : HO} (d : DOk o) : ∀ ps, o ≠ .tbl ps := by
  rintro ps rfl
  rcases d with ⟨_, e⟩ | ⟨_, e⟩ | ⟨P, w, a, es, e⟩ | ⟨_, _, _, e⟩ | ⟨_, _, e⟩
  · cases e
  · cases e
  · exact dictO_tbl P w ps e.symm
  · cases e
  · cases e
theorem SqL.exD {a : Addr} {xs : List V} (k : ∀ b o, H b = some o → DOk o → H' b = some o) (h : SqL K H a xs) : SqL K H' a xs := by
  rcases h with (h | ⟨o, h⟩) | h
  · exact .inl (.inl (k a _ h (.inr (.inl ⟨_, rfl⟩))))
  · exact .inl (.inr ⟨o, k a _ h (.inr (.inr (.inr (.inr ⟨_, _, rfl⟩))))⟩)
  · exact .inr h
mutual
theorem Da.monoD (k : ∀ b o, H b = some o → DOk o → H' b = some o) : ∀ {v : V} {d : Dt}, Da P w K H v d → Da P w K H' v d
  | _, _, .non => .non
  | _, _, .bl b => .bl b
  | _, _, .int i => .int i
  | _, _, .str x => .str x
  | _, _, .tup h a => .tup (k _ _ h (.inl ⟨_, rfl⟩)) (DaAll.monoD k a)
  | _, _, .lst h a => .lst (k _ _ h (.inr (.inl ⟨_, rfl⟩))) (DaAll.monoD k a)
  | _, _, .dic h a n l s => .dic (k _ _ h (.inr (.inr (.inl ⟨_, _, _, _, rfl⟩)))) (DaKvs.monoD k a) n l s
  | _, _, .obj h a => .obj (k _ _ h (.inr (.inr (.inr (.inl ⟨_, _, _, rfl⟩))))) (DaFs.monoD k a)
  | _, _, .scr h => .scr (SqL.exD k h)
theorem DaAll.monoD (k : ∀ b o, H b = some o → DOk o → H' b = some o) : ∀ {vs : List V} {ds : List Dt}, DaAll P w K H vs ds → DaAll P w K H' vs ds
  | _, _, .nil => .nil
  | _, _, .cons a b => .cons (Da.monoD k a) (DaAll.monoD k b)
theorem DaKvs.monoD (k : ∀ b o, H b = some o → DOk o → H' b = some o) : ∀ {es : List (NK × Addr × V)} {kvs : List (NK × Dt)}, DaKvs P w K H es kvs → DaKvs P w K H' es kvs
  | _, _, .nil => .nil
  | _, _, .cons a l b c => .cons (Da.monoD k a) l (Da.monoD k b) (DaKvs.monoD k c)
theorem DaFs.monoD (k : ∀ b o, H b = some o → DOk o → H' b = some o) : ∀ {fs : List (Str × V)} {gs : List (Str × Dt)}, DaFs P w K H fs gs → DaFs P w K H' fs gs
  | _, _, .nil => .nil
  | _, _, .cons a b => .cons (Da.monoD k a) (DaFs.monoD k b)
end
theorem Ex.kd (e : Ex H H') : ∀ b o, H b = some o → DOk o → H' b = some o := fun b o h d => e.keep b o h d.ntbl
theorem Da.ex {v : V} {d : Dt} (a : Da P w K H v d) (e : Ex H H') : Da P w K H' v d := a.monoD e.kd
theorem DaAll.ex {v : List V} {d : List Dt} (a : DaAll P w K H v d) (e : Ex H H') : DaAll P w K H' v d := a.monoD e.kd
theorem DaKvs.ex {es : List (NK × Addr × V)} {kvs : List (NK × Dt)} (a : DaKvs P w K H es kvs) (e : Ex H H') : DaKvs P w K H' es kvs := a.monoD e.kd
theorem DaFs.ex {fs : List (Str × V)} {gs : List (Str × Dt)} (a : DaFs P w K H fs gs) (e : Ex H H') : DaFs P w K H' fs gs := a.monoD e.kd

/-! ### data that no store can change: no list, dict, instance -/
mutual
def Dt.imm : Dt → Bool
  | .tup ds => immAll ds
  | .lst _ => false
  | .dic _ => false
  | .obj _ _ => false
  | .scr _ _ => false
  | _ => true
def immAll : List Dt → Bool
  | [] => true
  | d :: ds => d.imm && immAll ds
end
mutual
theorem Da.monoI (k : ∀ b xs, H b = some (.tup xs) → H' b = some (.tup xs)) : ∀ {v : V} {d : Dt}, Da P w K H v d → d.imm = true → Da P w K H' v d
  | _, _, .non, _ => .non
  | _, _, .bl b, _ => .bl b
  | _, _, .int i, _ => .int i
  | _, _, .str x, _ => .str x
  | _, _, .tup h a, i => .tup (k _ _ h) (DaAll.monoI k a (by unfold Dt.imm at i; exact i))
  | _, _, .lst h a, i => by unfold Dt.imm at i; cases i
  | _, _, .dic h a n l s, i => by unfold Dt.imm at i; cases i
  | _, _, .obj h a, i => by unfold Dt.imm at i; cases i
  | _, _, .scr h, i => by unfold Dt.imm at i; cases i
theorem DaAll.monoI (k : ∀ b xs, H b = some (.tup xs) → H' b = some (.tup xs)) : ∀ {vs : List V} {ds : List Dt}, DaAll P w K H vs ds → immAll ds = true → DaAll P w K H' vs ds
  | _, _, .nil, _ => .nil
  | _, _, .cons a b, i => by
    unfold immAll at i
    rw [Bool.and_eq_true] at i
    exact .cons (Da.monoI k a i.1) (DaAll.monoI k b i.2)
end
mutual
theorem kd_imm : ∀ k : NK, (kd k).imm = true
  | .none => rfl
  | .num i => rfl
  | .text x => rfl
  | .tup ks => by show Dt.imm (.tup (kds ks)) = true; unfold Dt.imm; exact kds_imm ks
theorem kds_imm : ∀ ks : List NK, immAll (kds ks) = true
  | [] => rfl
  | k :: ks => by
    show immAll (kd k :: kds ks) = true
    unfold immAll
    rw [kd_imm k, kds_imm ks]; rfl
end
theorem DaKvs.monoI {P : Program} {w : World} {K : PySem.W.Frag} {H H' : Hp} (k : ∀ b xs, H b = some (.tup xs) → H' b = some (.tup xs)) {es : List (NK × Addr × V)} {kvs : List (NK × Dt)} (a : DaKvs P w K H es kvs) (i : ∀ p ∈ kvs, p.2.imm = true) : DaKvs P w K H' es kvs := by
  match a with
  | .nil => exact .nil
  | .cons (k := kk) h1 h2 h3 t => exact .cons (h1.monoI k (kd_imm kk)) h2 (h3.monoI k (i _ (List.mem_cons_self ..))) (DaKvs.monoI k t fun p hp => i p (List.mem_cons_of_mem _ hp))
theorem immAll_map {α : Type} {f : α → Dt} (h : ∀ a, (f a).imm = true) : ∀ l : List α, immAll (l.map f) = true
  | [] => rfl
  | a :: l => by rw [List.map_cons, immAll, h a, immAll_map h l]; rfl
theorem immAll_mem {ds : List Dt} {d : Dt} (h : immAll ds = true) (m : d ∈ ds) : d.imm = true := by
  induction ds with
  | nil => cases m
  | cons x xs ih =>
    unfold immAll at h
    rw [Bool.and_eq_true] at h
    rcases List.mem_cons.mp m with e | m
    · rw [e]; exact h.1
    · exact ih h.2 m

theorem DaAll.length : ∀ {vs : List V} {ds : List Dt}, DaAll P w K H vs ds → vs.length = ds.length
  | _, _, .nil => rfl
  | _, _, .cons _ b => by simp [DaAll.length b]
theorem DaAll.get : ∀ {vs : List V} {ds : List Dt} {i : Nat} {d : Dt}, DaAll P w K H vs ds → ds[i]? = some d → ∃ v, vs[i]? = some v ∧ Da P w K H v d
  | _, _, _, _, .nil, h => by simp at h
  | _, _, 0, _, .cons a _, h => by simp at h; subst h; exact ⟨_, rfl, a⟩
  | _, _, i + 1, d, .cons _ b, h => by
    obtain ⟨v, h1, h2⟩ := DaAll.get (i := i) (d := d) b (by simpa using h)
    exact ⟨v, by simpa using h1, h2⟩
theorem DaAll.getV : ∀ {vs : List V} {ds : List Dt} {i : Nat} {v : V}, DaAll P w K H vs ds → vs[i]? = some v → ∃ d, ds[i]? = some d ∧ Da P w K H v d
  | _, _, _, _, .nil, h => by simp at h
  | _, _, 0, _, .cons a _, h => by simp at h; subst h; exact ⟨_, rfl, a⟩
  | _, _, i + 1, v, .cons _ b, h => by
    obtain ⟨d, h1, h2⟩ := DaAll.getV (i := i) (v := v) b (by simpa using h)
    exact ⟨d, by simpa using h1, h2⟩
theorem DaAll.app : ∀ {vs ws : List V} {ds es : List Dt}, DaAll P w K H vs ds → DaAll P w K H ws es → DaAll P w K H (vs ++ ws) (ds ++ es)
  | _, _, _, _, .nil, h => h
  | _, _, _, _, .cons a b, h => .cons a (DaAll.app b h)
theorem DaAll.one {v : V} {d : Dt} (h : Da P w K H v d) : DaAll P w K H [v] [d] := .cons h .nil
theorem DaAll.take : ∀ {vs : List V} {ds : List Dt} (n : Nat), DaAll P w K H vs ds → DaAll P w K H (vs.take n) (ds.take n)
  | _, _, 0, _ => .nil
  | _, _, _ + 1, .nil => .nil
  | _, _, n + 1, .cons a b => .cons a (DaAll.take n b)
theorem DaAll.drop : ∀ {vs : List V} {ds : List Dt} (n : Nat), DaAll P w K H vs ds → DaAll P w K H (vs.drop n) (ds.drop n)
  | _, _, 0, h => h
  | _, _, _ + 1, .nil => .nil
  | _, _, n + 1, .cons _ b => DaAll.drop n b
theorem DaAll.rev : ∀ {vs : List V} {ds : List Dt}, DaAll P w K H vs ds → DaAll P w K H vs.reverse ds.reverse
  | _, _, .nil => .nil
  | _, _, .cons a b => by rw [List.reverse_cons, List.reverse_cons]; exact (DaAll.rev b).app (.one a)
end

/-! ### the heap without some objects -/
def cut (A : List Addr) (H : Hp) : Hp := fun b => if b ∈ A then none else H b
theorem cut_in {A : List Addr} {H : Hp} {b : Addr} (h : b ∈ A) : cut A H b = none := if_pos h
theorem cut_out {A : List Addr} {H : Hp} {b : Addr} (h : b ∉ A) : cut A H b = H b := if_neg h
theorem cut_nil {H : Hp} : cut [] H = H := by funext b; exact cut_out (by simp)
theorem cut_sub {A : List Addr} {H : Hp} : Sub (cut A H) H := fun b o e => by
  by_cases h : b ∈ A
  · rw [cut_in h] at e; cases e
  · rw [cut_out h] at e; exact e
theorem cut_upd {A : List Addr} {H : Hp} {a : Addr} {o : HO} (h : a ∈ A) : cut A (upd H a o) = cut A H := by
  funext b
  by_cases hb : b ∈ A
  · rw [cut_in hb, cut_in hb]
  · rw [cut_out hb, cut_out hb, upd_ne (fun e => hb (by rw [e]; exact h))]
/-- an object of one's own: a list, a dict, an instance -/
def OwnAt (H : Hp) (a : Addr) : Prop := (∃ xs, H a = some (.lst xs)) ∨ (∃ P w es, H a = some (dictO P w a es)) ∨ ∃ C dx fs, H a = some (.ins C dx fs)
theorem OwnAt.ex {H H' : Hp} {a : Addr} (o : OwnAt H a) (e : Ex H H') : OwnAt H' a := by
  rcases o with ⟨xs, h⟩ | ⟨P, w, es, h⟩ | ⟨C, dx, fs, h⟩
  · exact .inl ⟨xs, e.keep _ _ h (fun _ z => by cases z)⟩
  · exact .inr (.inl ⟨P, w, es, e.keep _ _ h (dictO_tbl P w)⟩)
  · exact .inr (.inr ⟨C, dx, fs, e.keep _ _ h (fun _ z => by cases z)⟩)
theorem OwnAt.there {H : Hp} {a : Addr} (o : OwnAt H a) : H a ≠ none := by
  rcases o with ⟨xs, h⟩ | ⟨P, w, es, h⟩ | ⟨C, dx, fs, h⟩ <;> rw [h] <;> simp
theorem tabs_cut0 {A : List Addr} {H : Hp} (own : ∀ a ∈ A, OwnAt H a) (T : List (Addr × Str)) (t : Tabs T H) : Tabs T (cut A H) := fun p hp => by
  obtain ⟨ps, h1, h2, h3⟩ := t p hp
  refine ⟨ps, ?_, h2, fun pos cv hc => ?_⟩
  · rw [cut_out]
    · exact h1
    · intro z
      rcases own _ z with ⟨xs, h⟩ | ⟨P, w, es, h⟩ | ⟨C, dx, fs, h⟩
      · rw [h1] at h; cases h
      · rw [h1] at h; exact dictO_tbl P w ps (Option.some.inj h).symm
      · rw [h1] at h; cases h
  · obtain ⟨c, e1, e2⟩ := h3 pos cv hc
    refine ⟨c, e1, ?_⟩
    rw [cut_out]
    · exact e2
    · intro z
      rcases own _ z with ⟨xs, h⟩ | ⟨P, w, es, h⟩ | ⟨C, dx, fs, h⟩
      · rw [e2] at h; unfold CodeO at h; cases h
      · rw [e2] at h; exact dictO_code P w (Option.some.inj h)
      · rw [e2] at h; unfold CodeO at h; cases h
theorem tabs_cut {A : List Addr} {H : Hp} (own : ∀ a ∈ A, OwnAt H a) (T : List (Addr × Str)) (t : Tb T H) : Tb T (cut A H) := ⟨t.ok, tabs_cut0 own T t.tabs⟩
theorem cut_ex {A : List Addr} {H H' : Hp} (own : ∀ a ∈ A, OwnAt H a) (e : Ex H H') : Ex (cut A H) (cut A H') := by
  refine ⟨fun b o h n => ?_, fun b ps h => ?_, fun T t => tabs_cut (fun a ha => (own a ha).ex e) T (e.tabs T (t.ext cut_sub))⟩
  · by_cases hb : b ∈ A
    · rw [cut_in hb] at h; cases h
    · rw [cut_out hb] at h ⊢; exact e.keep b o h n
  · by_cases hb : b ∈ A
    · rw [cut_in hb] at h; cases h
    · rw [cut_out hb] at h ⊢; exact e.tbl b ps h
theorem own_tup {A : List Addr} {H : Hp} (own : ∀ a ∈ A, OwnAt H a) : ∀ b xs, H b = some (.tup xs) → cut A H b = some (.tup xs) := fun b xs h => by
  rw [cut_out]
  · exact h
  · intro z
    rcases own b z with ⟨ys, q⟩ | ⟨P, w, es, q⟩ | ⟨C, dx, fs, q⟩
    · rw [h] at q; cases q
    · rw [h] at q; unfold dictO at q; cases q
    · rw [h] at q; cases q
theorem Da.imm_cut {P : Program} {w : World} {K : PySem.W.Frag} {H : Hp} {A : List Addr} (own : ∀ a ∈ A, OwnAt H a) {v : V} {d : Dt} (h : Da P w K H v d) (i : d.imm = true) : Da P w K (cut A H) v d := h.monoI (own_tup own) i
theorem DaAll.imm_cut {P : Program} {w : World} {K : PySem.W.Frag} {H : Hp} {A : List Addr} (own : ∀ a ∈ A, OwnAt H a) {v : List V} {d : List Dt} (h : DaAll P w K H v d) (i : immAll d = true) : DaAll P w K (cut A H) v d := h.monoI (own_tup own) i
end Cp
end
section
set_option maxHeartbeats 4000000
/-! Slots, judgements. -/
namespace Cp
open PySem PySem.Spec PyProof.Rows L2 LamX

/-- what is known of a slot: nothing; data; a list, a dict of one's own -/
inductive Sl where
  | no | val (d : Dt) | ol (ds : List Dt) | od (kvs : List (NK × Dt)) | oo (a C : Addr) (fs : List (Str × Dt))
def Sl.own : Sl → Bool
  | .ol _ => true
  | .od _ => true
  | .oo _ _ _ => true
  | _ => false
def Sl.dt : Sl → Option Dt
  | .no => none
  | .val d => some d
  | .ol ds => some (.lst ds)
  | .od kvs => some (.dic kvs)
  | .oo _ C fs => some (.obj C fs)
def own1 (x : Option V) (s : Sl) : List Addr := match x with
  | some (.ref a) => if s.own = true then [a] else []
  | _ => []
def owns : L2.St → List Sl → List Addr
  | x :: σ, s :: ε => own1 x s ++ owns σ ε
  | _, _ => []
def noOwn (ε : List Sl) : Bool := ε.all fun s => !s.own

section
variable (P : Program) (w : World) (K : PySem.W.Frag)
def SlOk (H Hb : Hp) (v : Option V) : Sl → Prop
  | .no => True
  | .val d => ∃ x, v = some x ∧ Da P w K Hb x d
  | .ol ds => ∃ a xs, v = some (.ref a) ∧ H a = some (.lst xs) ∧ DaAll P w K Hb xs ds
  | .od kvs => ∃ a es, v = some (.ref a) ∧ H a = some (dictO P w a es) ∧ DaKvs P w K Hb es kvs ∧ (es.map (·.1)).Nodup ∧ es.length ≤ sizeLine ∧ (a == sysModules) = false
  | .oo a C fs => ∃ dx gs, v = some (.ref a) ∧ H a = some (.ins C dx gs) ∧ DaFs P w K Hb gs fs
structure EnvOk (T : List (Addr × Str)) (H0 H : Hp) (σ : L2.St) (ε : List Sl) : Prop where
  ex : Ex H0 (cut (owns σ ε) H)
  tb : Tb T (cut (owns σ ε) H)
  nd : (owns σ ε).Nodup
  sl : Paired (SlOk P w K H (cut (owns σ ε) H)) σ ε
end

theorem pget {α β : Type} {F : α → β → Prop} : ∀ {l : List α} {m : List β} {i : Nat} {b : β}, Paired F l m → m[i]? = some b → ∃ a, l[i]? = some a ∧ F a b
  | _, _, _, _, .nil, h => by simp at h
  | _, _, 0, _, .cons r _, h => by simp at h; subst h; exact ⟨_, rfl, r⟩
  | _, _, i + 1, b, .cons _ t, h => by
    obtain ⟨a, h1, h2⟩ := pget (i := i) (b := b) t (by simpa using h)
    exact ⟨a, by simpa using h1, h2⟩
theorem pset {α β : Type} {F : α → β → Prop} {x : α} {y : β} (r : F x y) : ∀ {l : List α} {m : List β} (i : Nat), Paired F l m → Paired F (l.set i x) (m.set i y)
  | _, _, _, .nil => .nil
  | _, _, 0, .cons _ t => .cons r t
  | _, _, i + 1, .cons q t => .cons q (pset r i t)
theorem pmono {α β : Type} {F G : α → β → Prop} {l : List α} {m : List β} (p : Paired F l m) (h : ∀ a b, F a b → G a b) : Paired G l m := by
  induction p with
  | nil => exact .nil
  | cons r _ ih => exact .cons (h _ _ r) ih
theorem pget_of {α β : Type} {F : α → β → Prop} : ∀ {l : List α} {m : List β}, l.length = m.length → (∀ (i : Nat) a b, l[i]? = some a → m[i]? = some b → F a b) → Paired F l m
  | [], [], _, _ => .nil
  | [], _ :: _, h, _ => by simp at h
  | _ :: _, [], h, _ => by simp at h
  | x :: l, y :: m, h, g => .cons (g 0 x y rfl rfl) (pget_of (by simpa using h) fun i a b h1 h2 => g (i + 1) a b (by simpa using h1) (by simpa using h2))

/-! ### owned addresses -/
theorem mem_own1 {x : Option V} {s : Sl} {a : Addr} : a ∈ own1 x s ↔ x = some (V.ref a) ∧ s.own = true := by
  unfold own1
  split
  · rename_i b
    split
    · rename_i h; simp [h]; exact ⟨fun z => z.symm, fun z => z.symm⟩
    · rename_i h; simp [h]
  · rename_i h
    constructor
    · intro z; cases z
    · rintro ⟨rfl, _⟩; exact absurd rfl (h a)
theorem nd_own1 {x : Option V} {s : Sl} : (own1 x s).Nodup := by
  unfold own1
  split
  · split <;> simp
  · simp
theorem owns_mem : ∀ {σ : L2.St} {ε : List Sl} {a : Addr}, a ∈ owns σ ε → ∃ (i : Nat) (s : Sl), σ[i]? = some (some (V.ref a)) ∧ ε[i]? = some s ∧ s.own = true
  | [], ε, a, h => by simp [owns] at h
  | _ :: _, [], a, h => by simp [owns] at h
  | x :: σ, s :: ε, a, h => by
    unfold owns at h
    rcases List.mem_append.mp h with h | h
    · obtain ⟨h1, h2⟩ := mem_own1.mp h
      exact ⟨0, s, by rw [h1]; rfl, rfl, h2⟩
    · obtain ⟨i, s', h1, h2, h3⟩ := owns_mem h
      exact ⟨i + 1, s', by simpa using h1, by simpa using h2, h3⟩
theorem mem_owns : ∀ {σ : L2.St} {ε : List Sl} {a : Addr} {i : Nat} {s : Sl}, σ[i]? = some (some (.ref a)) → ε[i]? = some s → s.own = true → a ∈ owns σ ε
  | [], ε, a, i, s, h, _, _ => by simp at h
  | _ :: _, [], a, i, s, _, h, _ => by simp at h
  | x :: σ, s0 :: ε, a, 0, s, h1, h2, h3 => by
    simp at h1 h2
    subst h1 h2
    unfold owns
    exact List.mem_append_left _ (mem_own1.mpr ⟨rfl, h3⟩)
  | x :: σ, s0 :: ε, a, i + 1, s, h1, h2, h3 => by
    unfold owns
    exact List.mem_append_right _ (mem_owns (σ := σ) (ε := ε) (i := i) (by simpa using h1) (by simpa using h2) h3)
theorem owns_no {σ : L2.St} {ε : List Sl} (h : noOwn ε = true) : owns σ ε = [] := by
  cases e : owns σ ε with
  | nil => rfl
  | cons a l =>
    obtain ⟨i, s, _, h2, h3⟩ := owns_mem (σ := σ) (ε := ε) (a := a) (by rw [e]; simp)
    have := List.all_eq_true.mp h s (List.mem_of_getElem? h2)
    rw [h3] at this; cases this
/-- the owned addresses behind a change of one slot -/
theorem owns_set_mem {σ : L2.St} {ε : List Sl} {i : Nat} {x : Option V} {s : Sl} {a : Addr} (h : a ∈ owns (σ.set i x) (ε.set i s)) : (x = some (.ref a) ∧ s.own = true) ∨ a ∈ owns σ ε := by
  obtain ⟨j, s', h1, h2, h3⟩ := owns_mem h
  by_cases e : i = j
  · subst e
    left
    rw [List.getElem?_set] at h1 h2
    simp at h1 h2
    obtain ⟨_, h1⟩ := h1
    obtain ⟨_, h2⟩ := h2
    subst h2
    exact ⟨h1, h3⟩
  · rw [List.getElem?_set_ne e] at h1 h2
    exact .inr (mem_owns h1 h2 h3)
/-- an index for each owned address -/
theorem owns_nodup_of {σ : L2.St} : ∀ {ε : List Sl}, (∀ (i j : Nat) (a : Addr) (s s' : Sl), σ[i]? = some (some (.ref a)) → σ[j]? = some (some (.ref a)) → ε[i]? = some s → ε[j]? = some s' → s.own = true → s'.own = true → i = j) → (owns σ ε).Nodup := by
  induction σ with
  | nil => intro ε _; simp [owns]
  | cons x σ ih =>
    intro ε h
    cases ε with
    | nil => simp [owns]
    | cons s ε =>
      have ih' := ih (ε := ε) fun i j a s s' h1 h2 h3 h4 h5 h6 => by
        have := h (i + 1) (j + 1) a s s' (by simpa using h1) (by simpa using h2) (by simpa using h3) (by simpa using h4) h5 h6
        omega
      unfold owns
      refine List.nodup_append.mpr ⟨nd_own1, ih', fun a ha b hb e => ?_⟩
      subst e
      obtain ⟨h1, h2⟩ := mem_own1.mp ha
      obtain ⟨j, s', g1, g2, g3⟩ := owns_mem hb
      have := h 0 (j + 1) a s s' (by rw [h1]; rfl) (by simpa using g1) rfl (by simpa using g2) h2 g3
      omega
theorem nodup_owns {σ : L2.St} : ∀ {ε : List Sl}, (owns σ ε).Nodup → ∀ (i j : Nat) (a : Addr) (s s' : Sl), σ[i]? = some (some (.ref a)) → σ[j]? = some (some (.ref a)) → ε[i]? = some s → ε[j]? = some s' → s.own = true → s'.own = true → i = j := by
  induction σ with
  | nil => intro ε _ i j a s s' h; simp at h
  | cons x σ ih =>
    intro ε h i j a s s' h1 h2 h3 h4 h5 h6
    cases ε with
    | nil => simp at h3
    | cons s0 ε =>
      unfold owns at h
      obtain ⟨_, tail, dis⟩ := List.nodup_append.mp h
      have head : ∀ (k : Nat) (s' : Sl), s0.own = true → x = some (.ref a) → σ[k]? = some (some (.ref a)) → ε[k]? = some s' → s'.own = true → False := fun k s' g1 g2 g3 g4 g5 =>
        dis a (mem_own1.mpr ⟨g2, g1⟩) a (mem_owns g3 g4 g5) rfl
      cases i with
      | zero =>
        cases j with
        | zero => rfl
        | succ j =>
          simp at h1 h3
          subst h3
          exact (head j s' h5 h1 (by simpa using h2) (by simpa using h4) h6).elim
      | succ i =>
        cases j with
        | zero =>
          simp at h2 h4
          subst h4
          exact (head i s h6 h2 (by simpa using h1) (by simpa using h3) h5).elim
        | succ j =>
          have := ih tail i j a s s' (by simpa using h1) (by simpa using h2) (by simpa using h3) (by simpa using h4) h5 h6
          omega

section
variable {P : Program} {w : World} {K : PySem.W.Frag} {T : List (Addr × Str)} {H0 H H2 : Hp} {σ : L2.St} {ε : List Sl}
theorem EnvOk.own (e : EnvOk P w K T H0 H σ ε) : ∀ a ∈ owns σ ε, OwnAt H a := fun a ha => by
  obtain ⟨i, s, h1, h2, h3⟩ := owns_mem ha
  obtain ⟨x, g1, g2⟩ := pget e.sl h2
  rw [h1] at g1
  cases g1
  cases s with
  | no => cases h3
  | val d => cases h3
  | ol ds =>
    obtain ⟨b, xs, q, r, _⟩ := g2
    cases q
    exact .inl ⟨xs, r⟩
  | od kvs =>
    obtain ⟨b, es, q, r, _⟩ := g2
    cases q
    exact .inr (.inl ⟨P, w, es, r⟩)
  | oo b C fs =>
    obtain ⟨dx, gs, q, r, _⟩ := g2
    cases q
    exact .inr (.inr ⟨C, dx, gs, r⟩)
theorem SlOk.mono {H H2 Hb Hb2 : Hp} {v : Option V} {s : Sl} (h : SlOk P w K H Hb v s) (e : Ex H H2) (eb : Ex Hb Hb2) : SlOk P w K H2 Hb2 v s := by
  cases s with
  | no => trivial
  | val d => obtain ⟨x, q, r⟩ := h; exact ⟨x, q, r.ex eb⟩
  | ol ds => obtain ⟨a, xs, q, r, t⟩ := h; exact ⟨a, xs, q, e.keep _ _ r (fun _ z => by cases z), t.ex eb⟩
  | od kvs => obtain ⟨a, es, q, r, t, u⟩ := h; exact ⟨a, es, q, e.keep _ _ r (dictO_tbl P w), t.ex eb, u⟩
  | oo a C fs => obtain ⟨dx, gs, q, r, t⟩ := h; exact ⟨dx, gs, q, e.keep _ _ r (fun _ z => by cases z), t.ex eb⟩
/-- the heap grows -/
theorem EnvOk.grow (e : EnvOk P w K T H0 H σ ε) (g : Ex H H2) : EnvOk P w K T H0 H2 σ ε := by
  have c := cut_ex e.own g
  exact ⟨e.ex.trans c, c.tabs T e.tb, e.nd, pmono e.sl fun _ _ h => h.mono g c⟩
theorem EnvOk.len (e : EnvOk P w K T H0 H σ ε) : σ.length = ε.length := Paired.length e.sl
theorem EnvOk.tabs (e : EnvOk P w K T H0 H σ ε) : Tb T H := e.tb.ext cut_sub
/-- the data of a slot, as seen from outside -/
theorem EnvOk.dt (e : EnvOk P w K T H0 H σ ε) {i : Nat} {s : Sl} {d : Dt} (h : ε[i]? = some s) (hd : s.dt = some d) : ∃ v, σ[i]? = some (some v) ∧ Da P w K H v d := by
  obtain ⟨x, g1, g2⟩ := pget e.sl h
  have cs : Ex (cut (owns σ ε) H) H := cut_sub.ex
  cases s with
  | no => cases hd
  | val d' => cases hd; obtain ⟨y, rfl, r⟩ := g2; exact ⟨y, g1, r.ex cs⟩
  | ol ds => cases hd; obtain ⟨a, xs, rfl, r, t⟩ := g2; exact ⟨_, g1, .lst r (t.ex cs)⟩
  | od kvs => cases hd; obtain ⟨a, es, rfl, r, t, n, l, m⟩ := g2; exact ⟨_, g1, .dic r (t.ex cs) n l m⟩
  | oo a C fs => cases hd; obtain ⟨dx, gs, rfl, r, t⟩ := g2; exact ⟨_, g1, .obj r (t.ex cs)⟩
theorem EnvOk.val (e : EnvOk P w K T H0 H σ ε) {i : Nat} {d : Dt} (h : ε[i]? = some (.val d)) : ∃ v, σ[i]? = some (some v) ∧ Da P w K (cut (owns σ ε) H) v d := by
  obtain ⟨x, g1, y, rfl, r⟩ := pget e.sl h
  exact ⟨y, g1, r⟩
/-- a slot gets data -/
theorem EnvOk.set (e : EnvOk P w K T H0 H σ ε) (i : Nat) {v : V} {d : Dt} (h : Da P w K (cut (owns σ ε) H) v d) : EnvOk P w K T H0 H (σ.set i (some v)) (ε.set i (.val d)) := by
  have sub : ∀ a, a ∈ owns (σ.set i (some v)) (ε.set i (.val d)) → a ∈ owns σ ε := fun a ha => by
    rcases owns_set_mem ha with ⟨_, h2⟩ | h2
    · cases h2
    · exact h2
  have cs : Sub (cut (owns σ ε) H) (cut (owns (σ.set i (some v)) (ε.set i (.val d))) H) := fun b o q => by
    by_cases hb : b ∈ owns σ ε
    · rw [cut_in hb] at q; cases q
    · rw [cut_out hb] at q
      rw [cut_out (fun z => hb (sub b z))]
      exact q
  refine ⟨e.ex.trans cs.ex, e.tb.ext cs, owns_nodup_of fun k j a s s' h1 h2 h3 h4 h5 h6 => ?_, pset ⟨v, rfl, h.ex cs.ex⟩ i (pmono e.sl fun _ _ q => q.mono (Ex.refl H) cs.ex)⟩
  have nk : ∀ (k : Nat) (s : Sl), (ε.set i (.val d))[k]? = some s → s.own = true → i ≠ k := fun k s g1 g2 z => by
    subst z
    rw [List.getElem?_set] at g1
    simp at g1
    obtain ⟨_, g1⟩ := g1
    rw [← g1] at g2; cases g2
  rw [List.getElem?_set_ne (nk k s h3 h5)] at h1 h3
  rw [List.getElem?_set_ne (nk j s' h4 h6)] at h2 h4
  exact nodup_owns e.nd k j a s s' h1 h2 h3 h4 h5 h6
/-- a slot is forgotten -/
theorem EnvOk.drop (e : EnvOk P w K T H0 H σ ε) (i : Nat) (v : Option V) : EnvOk P w K T H0 H (σ.set i v) (ε.set i .no) := by
  have sub : ∀ a, a ∈ owns (σ.set i v) (ε.set i .no) → a ∈ owns σ ε := fun a ha => by
    rcases owns_set_mem ha with ⟨_, h2⟩ | h2
    · cases h2
    · exact h2
  have cs : Sub (cut (owns σ ε) H) (cut (owns (σ.set i v) (ε.set i .no)) H) := fun b o q => by
    by_cases hb : b ∈ owns σ ε
    · rw [cut_in hb] at q; cases q
    · rw [cut_out hb] at q
      rw [cut_out (fun z => hb (sub b z))]
      exact q
  refine ⟨e.ex.trans cs.ex, e.tb.ext cs, owns_nodup_of fun k j a s s' h1 h2 h3 h4 h5 h6 => ?_, pset trivial i (pmono e.sl fun _ _ q => q.mono (Ex.refl H) cs.ex)⟩
  have nk : ∀ (k : Nat) (s : Sl), (ε.set i .no)[k]? = some s → s.own = true → i ≠ k := fun k s g1 g2 z => by
    subst z
    rw [List.getElem?_set] at g1
    simp at g1
    obtain ⟨_, g1⟩ := g1
    rw [← g1] at g2; cases g2
  rw [List.getElem?_set_ne (nk k s h3 h5)] at h1 h3
  rw [List.getElem?_set_ne (nk j s' h4 h6)] at h2 h4
  exact nodup_owns e.nd k j a s s' h1 h2 h3 h4 h5 h6
/-- a slot gets a new object of one's own -/
theorem EnvOk.setO (e : EnvOk P w K T H0 H σ ε) (i : Nat) {p : Addr} {o : HO} {s : Sl} (hp : H p = none) (ho : s.own = true) (hi : i < ε.length)
    (h : SlOk P w K (upd H p o) (cut (owns σ ε) H) (some (.ref p)) s) : EnvOk P w K T H0 (upd H p o) (σ.set i (some (.ref p))) (ε.set i s) := by
  have np : p ∉ owns σ ε := fun z => (e.own p z).there hp
  have sub : ∀ a, a ∈ owns (σ.set i (some (.ref p))) (ε.set i s) → a = p ∨ a ∈ owns σ ε := fun a ha => by
    rcases owns_set_mem ha with ⟨h2, _⟩ | h2
    · cases h2; exact .inl rfl
    · exact .inr h2
  have cs : Sub (cut (owns σ ε) H) (cut (owns (σ.set i (some (.ref p))) (ε.set i s)) (upd H p o)) := fun b u q => by
    by_cases hb : b ∈ owns σ ε
    · rw [cut_in hb] at q; cases q
    · rw [cut_out hb] at q
      have hbp : b ≠ p := ne_of_none q hp
      rw [cut_out (fun z => (sub b z).elim hbp hb), upd_ne hbp]
      exact q
  have g : Ex H (upd H p o) := Ex.new hp
  refine ⟨e.ex.trans cs.ex, e.tb.ext cs, owns_nodup_of fun k j a s1 s2 h1 h2 h3 h4 h5 h6 => ?_, pset (h.mono (Ex.refl _) cs.ex) i (pmono e.sl fun _ _ q => q.mono g cs.ex)⟩
  have at_ : ∀ (k : Nat) (s1 : Sl), (σ.set i (some (.ref p)))[k]? = some (some (.ref a)) → (ε.set i s)[k]? = some s1 → s1.own = true → (k = i ∧ a = p) ∨ (k ≠ i ∧ σ[k]? = some (some (.ref a)) ∧ ε[k]? = some s1 ∧ a ∈ owns σ ε) := fun k s1 g1 g2 g3 => by
    by_cases z : i = k
    · subst z
      rw [List.getElem?_set] at g1
      simp at g1
      exact .inl ⟨rfl, g1.2.symm⟩
    · rw [List.getElem?_set_ne z] at g1 g2
      exact .inr ⟨fun q => z q.symm, g1, g2, mem_owns g1 g2 g3⟩
  rcases at_ k s1 h1 h3 h5 with ⟨k1, k2⟩ | ⟨k1, k2, k3, k4⟩
  · rcases at_ j s2 h2 h4 h6 with ⟨j1, j2⟩ | ⟨j1, j2, j3, j4⟩
    · rw [k1, j1]
    · rw [k2] at j4; exact absurd j4 np
  · rcases at_ j s2 h2 h4 h6 with ⟨j1, j2⟩ | ⟨j1, j2, j3, j4⟩
    · rw [j2] at k4; exact absurd k4 np
    · exact nodup_owns e.nd k j a s1 s2 k2 j2 k3 j3 h5 h6
/-- an object of one's own changes -/
theorem EnvOk.updO (e : EnvOk P w K T H0 H σ ε) {i : Nat} {a : Addr} {o : HO} {s0 s : Sl} (h0 : ε[i]? = some s0) (ho0 : s0.own = true) (hv : σ[i]? = some (some (.ref a))) (ho : s.own = true)
    (h : SlOk P w K (upd H a o) (cut (owns σ ε) H) (some (.ref a)) s) : EnvOk P w K T H0 (upd H a o) σ (ε.set i s) := by
  have am : a ∈ owns σ ε := mem_owns hv h0 ho0
  have i1 : i < ε.length := (List.getElem?_eq_some_iff.mp h0).1
  have eσ : σ = σ.set i (some (.ref a)) := by
    apply List.ext_getElem?
    intro j
    by_cases z : i = j
    · subst z
      rw [List.getElem?_set, hv]
      have := (List.getElem?_eq_some_iff.mp hv).1
      simp [this]
    · rw [List.getElem?_set_ne z]
  have mem : ∀ b, b ∈ owns σ (ε.set i s) ↔ b ∈ owns σ ε := fun b => by
    constructor
    · intro z
      rw [eσ] at z
      rcases owns_set_mem z with ⟨z1, _⟩ | z
      · cases z1; exact am
      · exact z
    · intro z
      obtain ⟨j, s', z1, z2, z3⟩ := owns_mem z
      by_cases q : i = j
      · subst q
        rw [hv] at z1; cases z1
        exact mem_owns hv (by rw [List.getElem?_set]; simp [i1]) ho
      · exact mem_owns z1 (by rw [List.getElem?_set_ne q]; exact z2) z3
  have ec : cut (owns σ (ε.set i s)) (upd H a o) = cut (owns σ ε) H := by
    funext b
    by_cases hb : b ∈ owns σ ε
    · rw [cut_in hb, cut_in ((mem b).mpr hb)]
    · rw [cut_out hb, cut_out (fun z => hb ((mem b).mp z)), upd_ne (fun z => hb (by rw [z]; exact am))]
  have own_at : ∀ (k : Nat) (s1 : Sl), (ε.set i s)[k]? = some s1 → s1.own = true → ∃ s2, ε[k]? = some s2 ∧ s2.own = true := fun k s1 g1 g2 => by
    by_cases z : i = k
    · subst z; exact ⟨s0, h0, ho0⟩
    · rw [List.getElem?_set_ne z] at g1; exact ⟨s1, g1, g2⟩
  refine ⟨by rw [ec]; exact e.ex, by rw [ec]; exact e.tb, owns_nodup_of fun k j b s1 s2 h1 h2 h3 h4 h5 h6 => ?_, ?_⟩
  · obtain ⟨t1, g1, g2⟩ := own_at k s1 h3 h5
    obtain ⟨t2, g3, g4⟩ := own_at j s2 h4 h6
    exact nodup_owns e.nd k j b t1 t2 h1 h2 g1 g3 g2 g4
  · rw [ec]
    refine pget_of (by rw [List.length_set]; exact e.len) fun j x s1 g1 g2 => ?_
    by_cases z : i = j
    · subst z
      rw [List.getElem?_set] at g2
      simp at g2
      rw [← g2.2]
      rw [hv] at g1
      cases g1
      exact h
    · rw [List.getElem?_set_ne z] at g2
      obtain ⟨x', q1, q2⟩ := pget e.sl g2
      rw [g1] at q1; cases q1
      cases s1 with
      | no => trivial
      | val d => exact q2
      | ol ds =>
        obtain ⟨b, xs, r1, r2, r3⟩ := q2
        refine ⟨b, xs, r1, ?_, r3⟩
        subst r1
        rw [upd_ne]
        · exact r2
        · intro q; subst q
          exact z (nodup_owns e.nd i j _ s0 _ hv g1 h0 g2 ho0 rfl)
      | od kvs =>
        obtain ⟨b, es, r1, r2, r3⟩ := q2
        refine ⟨b, es, r1, ?_, r3⟩
        subst r1
        rw [upd_ne]
        · exact r2
        · intro q; subst q
          exact z (nodup_owns e.nd i j _ s0 _ hv g1 h0 g2 ho0 rfl)
      | oo b C fs =>
        obtain ⟨dx, gs, r1, r2, r3⟩ := q2
        refine ⟨dx, gs, r1, ?_, r3⟩
        subst r1
        rw [upd_ne]
        · exact r2
        · intro q; subst q
          exact z (nodup_owns e.nd i j _ s0 _ hv g1 h0 g2 ho0 rfl)
end
end Cp
end
section
set_option maxHeartbeats 4000000
/-! Judgements of expressions. -/
namespace Cp
open PySem PySem.Spec PyProof.Rows L2 LamX

abbrev GP := List Addr → Hp → V → Hp → Prop
section
variable (T : List (Addr × Str)) (X : Cx)
structure DG (ε : List Sl) (e : Expr) (G : GP) : Prop where
  run : ∀ (pins : List (Addr × Obj)) (s : Shared) (σ : L2.St) (H H0 : Hp), Inv X pins σ H s → EnvOk X.prog X.w X.K T H0 H σ ε → wpAny (model X.prog X.w) X.A (eval e X.env) (EP X pins σ (G (owns σ ε) H)) X.xe s
def gE (d : Dt) : GP := fun _ H v H' => Ex H H' ∧ Da X.prog X.w X.K H' v d
def gB (d : Dt) : GP := fun A H v H' => Ex H H' ∧ Da X.prog X.w X.K (cut A H') v d
/-- a new list -/
def gN (ds : List Dt) : GP := fun A H v H' => ∃ (H1 : Hp) (p : Addr) (xs : List V), v = .ref p ∧ Ex H H1 ∧ H1 p = none ∧ H' = upd H1 p (.lst xs) ∧ DaAll X.prog X.w X.K (cut A H1) xs ds
/-- a new dict -/
def gD (kvs : List (NK × Dt)) : GP := fun A H v H' => ∃ (H1 : Hp) (p : Addr) (es : List (NK × Addr × V)), v = .ref p ∧ Ex H H1 ∧ H1 p = none ∧ H' = upd H1 p (dictO X.prog X.w p es) ∧ DaKvs X.prog X.w X.K (cut A H1) es kvs ∧
  (es.map (·.1)).Nodup ∧ es.length ≤ sizeLine ∧ (p == sysModules) = false
abbrev DE (ε : List Sl) (e : Expr) (d : Dt) : Prop := DG T X ε e (gE X d)
abbrev DB (ε : List Sl) (e : Expr) (d : Dt) : Prop := DG T X ε e (gB X d)
abbrev DN (ε : List Sl) (e : Expr) (ds : List Dt) : Prop := DG T X ε e (gN X ds)
abbrev DD (ε : List Sl) (e : Expr) (kvs : List (NK × Dt)) : Prop := DG T X ε e (gD X kvs)
structure DT (ε : List Sl) (e : Expr) (b : Bool) : Prop where
  run : ∀ (pins : List (Addr × Obj)) (s : Shared) (σ : L2.St) (H H0 : Hp), Inv X pins σ H s → EnvOk X.prog X.w X.K T H0 H σ ε → wpAny (model X.prog X.w) X.A (isTrue e X.env (eval e X.env)) (TP X pins σ fun k H' => k = b ∧ Ex H H') X.xe s
structure DW (ε : List Sl) (e : Expr) (b : Bool) : Prop where
  run : ∀ (wh : Sem Value) (pins : List (Addr × Obj)) (s : Shared) (σ : L2.St) (H H0 : Hp), Inv X pins σ H s → EnvOk X.prog X.w X.K T H0 H σ ε → wpAny (model X.prog X.w) X.A (isTrue e X.env wh) (TP X pins σ fun k H' => k = b ∧ Ex H H') X.xe s
structure DA (ε : List Sl) (es : List Expr) (ds : List Dt) : Prop where
  run : ∀ (pos : Pos) (pins : List (Addr × Obj)) (s : Shared) (σ : L2.St) (H H0 : Hp), Inv X pins σ H s → EnvOk X.prog X.w X.K T H0 H σ ε → wpAny (model X.prog X.w) X.A (spliced (backTo pos (starEach es X.env))) (AP X pins σ fun vs H' => Ex H H' ∧ DaAll X.prog X.w X.K H' vs ds) X.xe s
def tG (ε : List Sl) (G : GP) : TE := fun σ H Q => ∃ H0, EnvOk X.prog X.w X.K T H0 H σ ε ∧ ∀ v H', G (owns σ ε) H v H' → Q v H'
def tGT (ε : List Sl) (b : Bool) : TT := fun σ H Q => ∃ H0, EnvOk X.prog X.w X.K T H0 H σ ε ∧ ∀ H', Ex H H' → Q b H'
def tGA (ε : List Sl) (ds : List Dt) : TA := fun σ H Q => ∃ H0, EnvOk X.prog X.w X.K T H0 H σ ε ∧ ∀ vs H', Ex H H' → DaAll X.prog X.w X.K H' vs ds → Q vs H'
end
section
variable {T : List (Addr × Str)} {X : Cx} {ε : List Sl} {e a b c : Expr} {es : List Expr} {d d1 d2 : Dt} {ds : List Dt} {G : GP} {pos : Pos}
theorem DG.pe (h : DG T X ε e G) : PE X e (tG T X ε G) := ⟨fun pins s σ H Q I ⟨H0, ev, k⟩ => thn (h.run pins s σ H H0 I ev) fun u s' ⟨v, H', I', r, q⟩ => ⟨v, H', I', r, k v H' q⟩⟩
theorem DG.of {t : TE} (p : PE X e t) (h : ∀ σ H H0, EnvOk X.prog X.w X.K T H0 H σ ε → t σ H (G (owns σ ε) H)) : DG T X ε e G := ⟨fun pins s σ H H0 I ev => p.run pins s σ H _ I (h σ H H0 ev)⟩
theorem DG.imp {G' : GP} (h : DG T X ε e G) (k : ∀ σ H H0, EnvOk X.prog X.w X.K T H0 H σ ε → ∀ v H', G (owns σ ε) H v H' → G' (owns σ ε) H v H') : DG T X ε e G' :=
  .of h.pe fun σ H H0 ev => ⟨H0, ev, k σ H H0 ev⟩
theorem DT.pt {b : Bool} (h : DT T X ε e b) : PT X e (tGT T X ε b) := ⟨fun pins s σ H Q I ⟨H0, ev, k⟩ => thn (h.run pins s σ H H0 I ev) fun u s' ⟨H', I', e1, q⟩ => ⟨H', I', by rw [e1]; exact k H' q⟩⟩
theorem DT.of {t : TT} {b : Bool} (p : PT X e t) (h : ∀ σ H H0, EnvOk X.prog X.w X.K T H0 H σ ε → t σ H (fun k H' => k = b ∧ Ex H H')) : DT T X ε e b := ⟨fun pins s σ H H0 I ev => p.run pins s σ H _ I (h σ H H0 ev)⟩
theorem DW.pw {b : Bool} (h : DW T X ε e b) : PW X e (tGT T X ε b) := ⟨fun wh pins s σ H Q I ⟨H0, ev, k⟩ => thn (h.run wh pins s σ H H0 I ev) fun u s' ⟨H', I', e1, q⟩ => ⟨H', I', by rw [e1]; exact k H' q⟩⟩
theorem DW.of {t : TT} {b : Bool} (p : PW X e t) (h : ∀ σ H H0, EnvOk X.prog X.w X.K T H0 H σ ε → t σ H (fun k H' => k = b ∧ Ex H H')) : DW T X ε e b := ⟨fun wh pins s σ H H0 I ev => p.run wh pins s σ H _ I (h σ H H0 ev)⟩
theorem DW.dt {b : Bool} (h : DW T X ε e b) : DT T X ε e b := ⟨h.run _⟩
theorem DA.pa (h : DA T X ε es ds) : PA X es (tGA T X ε ds) := ⟨fun pos pins s σ H Q I ⟨H0, ev, k⟩ => thn (h.run pos pins s σ H H0 I ev) fun u s' ⟨vs, H', I', r, q1, q2⟩ => ⟨vs, H', I', r, k vs H' q1 q2⟩⟩
theorem DA.of {t : TA} (p : PA X es t) (h : ∀ σ H H0, EnvOk X.prog X.w X.K T H0 H σ ε → t σ H (fun vs H' => Ex H H' ∧ DaAll X.prog X.w X.K H' vs ds)) : DA T X ε es ds := ⟨fun pos pins s σ H H0 I ev => p.run pos pins s σ H _ I (h σ H H0 ev)⟩

/-! ### weak and strong -/
theorem DG.weak (h : DB T X ε e d) : DE T X ε e d := h.imp fun σ H H0 ev v H' ⟨g, a⟩ => ⟨g, a.ex cut_sub.ex⟩
theorem DG.strong (h : DE T X ε e d) (i : d.imm = true) : DB T X ε e d := h.imp fun σ H H0 ev v H' ⟨g, a⟩ => ⟨g, a.imm_cut (fun a ha => (ev.own a ha).ex g) i⟩
theorem DG.strongN (h : DE T X ε e d) (i : noOwn ε = true) : DB T X ε e d := h.imp fun σ H H0 ev v H' ⟨g, a⟩ => ⟨g, by rw [owns_no i, cut_nil]; exact a⟩
theorem DG.lst (h : DN T X ε e ds) : DB T X ε e (.lst ds) := h.imp fun σ H H0 ev v H' ⟨H1, p, xs, e1, g, hp, e2, a⟩ => by
  subst e1 e2
  have np : p ∉ owns σ ε := fun z => ((ev.own p z).ex g).there hp
  have s : Sub (cut (owns σ ε) H1) (cut (owns σ ε) (upd H1 p (.lst xs))) := fun b o q => by
    by_cases hb : b ∈ owns σ ε
    · rw [cut_in hb] at q; cases q
    · rw [cut_out hb] at q ⊢
      rw [upd_ne (ne_of_none q hp)]; exact q
  exact ⟨g.trans (Ex.new hp), .lst (by rw [cut_out np, upd_same]) (a.ex s.ex)⟩
theorem DG.lstW (h : DN T X ε e ds) : DE T X ε e (.lst ds) := h.lst.weak
theorem DG.dic {kvs : List (NK × Dt)} (h : DD T X ε e kvs) : DB T X ε e (.dic kvs) := h.imp fun σ H H0 ev v H' ⟨H1, p, es, e1, g, hp, e2, a, n, l, sm⟩ => by
  subst e1 e2
  have np : p ∉ owns σ ε := fun z => ((ev.own p z).ex g).there hp
  have s : Sub (cut (owns σ ε) H1) (cut (owns σ ε) (upd H1 p (dictO X.prog X.w p es))) := fun b o q => by
    by_cases hb : b ∈ owns σ ε
    · rw [cut_in hb] at q; cases q
    · rw [cut_out hb] at q ⊢
      rw [upd_ne (ne_of_none q hp)]; exact q
  exact ⟨g.trans (Ex.new hp), .dic (by rw [cut_out np, upd_same]) (a.ex s.ex) n l sm⟩

/-! ### reading two, one -/
variable {σ : L2.St} {H H0 : Hp}
theorem one1 (ev : EnvOk X.prog X.w X.K T H0 H σ ε) {R : V → Hp → Prop} (h : ∀ x H1, Ex H H1 → Da X.prog X.w X.K H1 x d1 → R x H1) : tG T X ε (gE X d1) σ H R := ⟨H0, ev, fun x H1 ⟨g1, a1⟩ => h x H1 g1 a1⟩
theorem two2 (ev : EnvOk X.prog X.w X.K T H0 H σ ε) {R : V → V → Hp → Prop} (h : ∀ x y H2, Ex H H2 → Da X.prog X.w X.K H2 x d1 → Da X.prog X.w X.K H2 y d2 → R x y H2) :
    tG T X ε (gE X d1) σ H fun x H1 => tG T X ε (gE X d2) σ H1 fun y H2 => R x y H2 :=
  ⟨H0, ev, fun x H1 ⟨g1, a1⟩ => ⟨H0, ev.grow g1, fun y H2 ⟨g2, a2⟩ => h x y H2 (g1.trans g2) (a1.ex g2) a2⟩⟩
theorem argsG (ev : EnvOk X.prog X.w X.K T H0 H σ ε) {R : List V → Hp → Prop} (h : ∀ vs H1, Ex H H1 → DaAll X.prog X.w X.K H1 vs ds → R vs H1) : tGA T X ε ds σ H R := ⟨H0, ev, h⟩

/-! ### names, constants -/
theorem de_int {i j} : DE T X ε (.Constant (.int i) j pos) (.int i) := .of pe_int fun σ H H0 ev => ⟨Ex.refl H, .int i⟩
theorem de_str {x j} : DE T X ε (.Constant (.str x) j pos) (.str x) := .of pe_str fun σ H H0 ev => ⟨Ex.refl H, .str x⟩
theorem de_bl {b j} : DE T X ε (.Constant (.bool b) j pos) (.bl b) := .of pe_bl fun σ H H0 ev => ⟨Ex.refl H, .bl b⟩
theorem de_non {j} : DE T X ε (.Constant .none j pos) .non := .of pe_non fun σ H H0 ev => ⟨Ex.refl H, .non⟩
theorem de_var (i : Nat) {x : Str} {s : Sl} (hN : X.N[i]? = some x) (hv : Vis X.env.scope x) (h : ε[i]? = some s) (hd : s.dt = some d) (hd1 : (x == ("__debug__" : Str)) = false) (hcd : (x == ("__classdict__" : Str)) = false) : DE T X ε (.Name x pos) d :=
  .of (pe_var hN hv hd1 hcd) fun σ H H0 ev => by
    obtain ⟨v, h1, h2⟩ := ev.dt h hd
    exact ⟨v, h1, Ex.refl H, h2⟩
theorem db_var (i : Nat) {x : Str} (hN : X.N[i]? = some x) (hv : Vis X.env.scope x) (h : ε[i]? = some (.val d)) (hd1 : (x == ("__debug__" : Str)) = false) (hcd : (x == ("__classdict__" : Str)) = false) : DB T X ε (.Name x pos) d :=
  .of (pe_var hN hv hd1 hcd) fun σ H H0 ev => by
    obtain ⟨v, h1, h2⟩ := ev.val h
    exact ⟨v, h1, Ex.refl H, h2⟩
/-- the name in slot i -/
theorem dv (i : Nat) {x : Str} {s : Sl} (hN : X.N[i]? = some x := by rfl) (hv : Vis X.env.scope x := by first | exact Or.inl rfl | exact Or.inr (Or.inl rfl) | exact Or.inr (Or.inr rfl)) (h : ε[i]? = some s := by rfl) (hd : s.dt = some d := by rfl)
    (hd1 : (x == ("__debug__" : Str)) = false := by decide) (hcd : (x == ("__classdict__" : Str)) = false := by decide) : DE T X ε (.Name x pos) d := de_var i hN hv h hd hd1 hcd
theorem bv (i : Nat) {x : Str} (hN : X.N[i]? = some x := by rfl) (hv : Vis X.env.scope x := by first | exact Or.inl rfl | exact Or.inr (Or.inl rfl) | exact Or.inr (Or.inr rfl)) (h : ε[i]? = some (.val d) := by rfl)
    (hd1 : (x == ("__debug__" : Str)) = false := by decide) (hcd : (x == ("__classdict__" : Str)) = false := by decide) : DB T X ε (.Name x pos) d := db_var i hN hv h hd1 hcd
theorem de_globS {x : Str} {z : Str} (hg : Gl X x) (hm : ∃ t, X.mg x = some (.str z t)) (hd : (x == ("__debug__" : Str)) = false := by decide) : DE T X ε (.Name x pos) (.str z) := by
  obtain ⟨t, hm⟩ := hm
  exact .of (pe_glob (v := .str z) hg hm ⟨t, rfl⟩ hd) fun σ H H0 ev => ⟨Ex.refl H, .str z⟩

/-! ### operators -/
/-- d follows: what is wanted behind it -/
def OkV (X : Cx) (d : Dt) (H : Hp) (Q : VK) : Prop := ∀ v H', Ex H H' → Da X.prog X.w X.K H' v d → Q v H'
theorem OkV.at {Q : VK} (k : OkV X d H Q) {v : V} (h : Da X.prog X.w X.K H v d) : Q v H := k v H (Ex.refl H) h
theorem okE (ev : EnvOk X.prog X.w X.K T H0 H σ ε) {H2 : Hp} {A : List Addr} (g : Ex H H2) : OkV X d H2 (gE X d A H) := fun v H' e h => ⟨g.trans e, h⟩
theorem de_op {op : Operator} {r : R2} (ho : OpR X (binaryOp op) r) (ha : DE T X ε a d1) (hb : DE T X ε b d2)
    (h : ∀ x y H Q, Da X.prog X.w X.K H x d1 → Da X.prog X.w X.K H y d2 → OkV X d H Q → r x y H Q) : DE T X ε (.BinOp a op b pos) d :=
  .of (pe_op ho ha.pe hb.pe) fun σ H H0 ev => two2 ev fun x y H2 g hx hy => h x y H2 _ hx hy (okE ev g)
theorem de_add {i j : Int} (ha : DE T X ε a (.int i)) (hb : DE T X ε b (.int j)) : DE T X ε (.BinOp a .Add b pos) (.int (i + j)) :=
  de_op op_add ha hb fun x y H Q hx hy k => by cases hx; cases hy; exact ⟨i, j, rfl, rfl, k.at (.int _)⟩
theorem de_sub {i j : Int} (ha : DE T X ε a (.int i)) (hb : DE T X ε b (.int j)) : DE T X ε (.BinOp a .Sub b pos) (.int (i - j)) :=
  de_op op_sub ha hb fun x y H Q hx hy k => by cases hx; cases hy; exact ⟨i, j, rfl, rfl, k.at (.int _)⟩
theorem de_mul {i j : Int} (ha : DE T X ε a (.int i)) (hb : DE T X ε b (.int j)) (hc : CMul i j) : DE T X ε (.BinOp a .Mult b pos) (.int (i * j)) :=
  de_op op_mul ha hb fun x y H Q hx hy k => by cases hx; cases hy; exact ⟨i, j, rfl, rfl, hc, k.at (.int _)⟩
theorem de_mod {i j : Int} (ha : DE T X ε a (.int i)) (hb : DE T X ε b (.int j)) (hc : 0 < j) : DE T X ε (.BinOp a .Mod b pos) (.int (i % j)) :=
  de_op op_mod ha hb fun x y H Q hx hy k => by cases hx; cases hy; exact ⟨i, j, rfl, rfl, hc, k.at (.int _)⟩
theorem de_fdiv {i j : Int} (ha : DE T X ε a (.int i)) (hb : DE T X ε b (.int j)) (hc : CDiv i j) : DE T X ε (.BinOp a .FloorDiv b pos) (.int (i / j)) :=
  de_op op_fdiv ha hb fun x y H Q hx hy k => by cases hx; cases hy; exact ⟨i, j, rfl, rfl, hc, k.at (.int _)⟩
theorem de_pow {i j : Int} (ha : DE T X ε a (.int i)) (hb : DE T X ε b (.int j)) (hc : CPow i j) : DE T X ε (.BinOp a .Pow b pos) (.int (i ^ j.toNat)) :=
  de_op op_pow ha hb fun x y H Q hx hy k => by cases hx; cases hy; exact ⟨i, j, rfl, rfl, hc, k.at (.int _)⟩
theorem de_addS {i j : Str} (ha : DE T X ε a (.str i)) (hb : DE T X ε b (.str j)) (hc : i.length + j.length ≤ sizeLine) : DE T X ε (.BinOp a .Add b pos) (.str (i ++ j)) :=
  de_op op_add_str ha hb fun x y H Q hx hy k => by cases hx; cases hy; exact ⟨i, j, rfl, rfl, hc, k.at (.str _)⟩
theorem de_neg {i : Int} (ha : DE T X ε a (.int i)) : DE T X ε (.UnaryOp .USub a pos) (.int (-i)) :=
  .of (pe_un un_neg ha.pe) fun σ H H0 ev => one1 ev fun x H1 g hx => by cases hx; exact ⟨i, rfl, g, .int _⟩

/-! ### new lists by an operator -/
theorem newL (ev : EnvOk X.prog X.w X.K T H0 H σ ε) {H1 : Hp} {xs : List V} (g : Ex H H1) (h : DaAll X.prog X.w X.K H1 xs ds) (i : immAll ds = true) : ∀ p, H1 p = none → gN X ds (owns σ ε) H (.ref p) (upd H1 p (.lst xs)) :=
  fun p hp => ⟨H1, p, xs, rfl, g, hp, rfl, h.imm_cut (fun a ha => (ev.own a ha).ex g) i⟩
/-- .. or nothing is one's own -/
theorem newLN (ev : EnvOk X.prog X.w X.K T H0 H σ ε) {H1 : Hp} {xs : List V} (g : Ex H H1) (h : DaAll X.prog X.w X.K H1 xs ds) (i : (immAll ds || noOwn ε) = true) : ∀ p, H1 p = none → gN X ds (owns σ ε) H (.ref p) (upd H1 p (.lst xs)) := by
  cases q : immAll ds with
  | true => exact newL ev g h q
  | false =>
    rw [q, Bool.false_or] at i
    exact fun p hp => ⟨H1, p, xs, rfl, g, hp, rfl, by rw [owns_no i, cut_nil]; exact h⟩
theorem dn_cat {ds es : List Dt} (ha : DE T X ε a (.lst ds)) (hb : DE T X ε b (.lst es)) (hl : ds.length + es.length ≤ sizeLine) (i : immAll (ds ++ es) = true) : DN T X ε (.BinOp a .Add b pos) (ds ++ es) :=
  .of (pe_op op_cat ha.pe hb.pe) fun σ H H0 ev => two2 ev fun x y H2 g hx hy => by
    cases hx with
    | @lst p xs _ h1 a1 =>
      cases hy with
      | @lst q ys _ h2 a2 => exact ⟨p, q, xs, ys, rfl, rfl, h1, h2, by rw [a1.length, a2.length]; exact hl, newL ev g (a1.app a2) i⟩
theorem DaAll.repl {P : Program} {w : World} {K : PySem.W.Frag} {H : Hp} {xs : List V} {ds : List Dt} (h : DaAll P w K H xs ds) : ∀ k : Nat, DaAll P w K H (List.replicate k xs).flatten (List.replicate k ds).flatten
  | 0 => .nil
  | k + 1 => by rw [List.replicate_succ, List.replicate_succ, List.flatten_cons, List.flatten_cons]; exact h.app (DaAll.repl h k)
theorem dn_rep {ds : List Dt} {k : Int} (ha : DE T X ε a (.lst ds)) (hb : DE T X ε b (.int k)) (hk : 0 ≤ k ∧ k ≤ 100) (hl : ds.length ≤ 100) (i : immAll (List.replicate k.toNat ds).flatten = true) : DN T X ε (.BinOp a .Mult b pos) (List.replicate k.toNat ds).flatten :=
  .of (pe_op op_rep ha.pe hb.pe) fun σ H H0 ev => two2 ev fun x y H2 g hx hy => by
    cases hy
    cases hx with
    | @lst p xs _ h1 a1 =>
      have h3 : ds.length * k.toNat ≤ 100 * 100 := Nat.mul_le_mul hl (by omega)
      refine ⟨p, k, xs, rfl, rfl, h1, by omega, by omega, by rw [a1.length, sizeLine_eq]; omega, newL ev g (a1.repl k.toNat) i⟩

/-! ### comparisons -/
def CmpD (X : Cx) (op : CmpOp) (d1 d2 : Dt) (b : Bool) : Prop := ∃ r : R2, OpR X (compareOp op) r ∧ ∀ (x y : V) (H : Hp) (Q : VK), Da X.prog X.w X.K H x d1 → Da X.prog X.w X.K H y d2 → (∀ H', Ex H H' → Q (.bl b) H') → r x y H Q
theorem de_cmp {op : CmpOp} {b' : Bool} (c : CmpD X op d1 d2 b') (ha : DE T X ε a d1) (hb : DE T X ε b d2) (hm : behindInMarks op b = false) : DE T X ε (.Compare a [op] [b] pos) (.bl b') := by
  obtain ⟨r, ho, h⟩ := c
  exact .of (pe_cmpR ho ha.pe hb.pe hm) fun σ H H0 ev => two2 ev fun x y H2 g hx hy => h x y H2 _ hx hy fun H' g' => ⟨g.trans g', .bl b'⟩
theorem dt_cmp {op : CmpOp} {b' : Bool} (c : CmpD X op d1 d2 b') (ha : DE T X ε a d1) (hb : DE T X ε b d2) (hm : behindInMarks op b = false) : DT T X ε (.Compare a [op] [b] pos) b' := by
  obtain ⟨r, ho, h⟩ := c
  exact .of (pt_cmpR ho ha.pe hb.pe hm) fun σ H H0 ev => two2 ev fun x y H2 g hx hy => h x y H2 _ hx hy fun H' g' => ⟨b', rfl, rfl, g.trans g'⟩
theorem de_chain {op op' : CmpOp} {b1 b2 : Bool} {d3 : Dt} (c1 : CmpD X op d1 d2 b1) (c2 : CmpD X op' d2 d3 b2) (ha : DE T X ε a d1) (hb : DE T X ε b d2) (hc : DE T X ε c d3) (hm : lastMarks [op, op'] [b, c] = false := by with_unfolding_all rfl) :
    DE T X ε (.Compare a [op, op'] [b, c] pos) (.bl (b1 && b2)) := by
  obtain ⟨r, ho, h⟩ := c1
  obtain ⟨r', ho', h'⟩ := c2
  refine .of (pe_chain ho ho' ha.pe hb.pe hc.pe hm) fun σ H H0 ev => two2 ev fun x y H2 g hx hy => h x y H2 _ hx hy fun H3 g3 => ⟨b1, rfl, ?_⟩
  cases b1 with
  | true =>
    refine iteT ⟨H0, ev.grow (g.trans g3), fun z H4 ⟨g4, hz⟩ => h' y z H4 _ (hy.ex (g3.trans g4)) hz fun H5 g5 => ⟨(g.trans g3).trans (g4.trans g5), ?_⟩⟩
    rw [Bool.true_and]; exact .bl b2
  | false =>
    exact iteF ⟨g.trans g3, .bl false⟩
theorem c_eqI {i j : Int} : CmpD X .Eq (.int i) (.int j) (decide (i = j)) := ⟨_, op_eq, fun x y H Q hx hy k => by
  cases hx; cases hy
  refine ⟨rfl, ?_⟩
  have e : decide (V.int i = V.int j) = decide (i = j) := by
    by_cases z : i = j
    · subst z; simp
    · rw [decide_eq_false z, decide_eq_false fun q => z (V.int.inj q)]
  rw [e]; exact k H (Ex.refl H)⟩
theorem c_neI {i j : Int} : CmpD X .NotEq (.int i) (.int j) (!decide (i = j)) := ⟨_, op_ne, fun x y H Q hx hy k => by
  cases hx; cases hy
  refine ⟨rfl, ?_⟩
  have e : decide (V.int i = V.int j) = decide (i = j) := by
    by_cases z : i = j
    · subst z; simp
    · rw [decide_eq_false z, decide_eq_false fun q => z (V.int.inj q)]
  rw [e]; exact k H (Ex.refl H)⟩
theorem c_eqS {i j : Str} : CmpD X .Eq (.str i) (.str j) (decide (i = j)) := ⟨_, op_eq, fun x y H Q hx hy k => by
  cases hx; cases hy
  refine ⟨rfl, ?_⟩
  have e : decide (V.str i = V.str j) = decide (i = j) := by
    by_cases z : i = j
    · subst z; simp
    · rw [decide_eq_false z, decide_eq_false fun q => z (V.str.inj q)]
  rw [e]; exact k H (Ex.refl H)⟩
theorem c_neS {i j : Str} : CmpD X .NotEq (.str i) (.str j) (!decide (i = j)) := ⟨_, op_ne, fun x y H Q hx hy k => by
  cases hx; cases hy
  refine ⟨rfl, ?_⟩
  have e : decide (V.str i = V.str j) = decide (i = j) := by
    by_cases z : i = j
    · subst z; simp
    · rw [decide_eq_false z, decide_eq_false fun q => z (V.str.inj q)]
  rw [e]; exact k H (Ex.refl H)⟩
theorem c_neB {i j : Bool} : CmpD X .NotEq (.bl i) (.bl j) (!decide (i = j)) := ⟨_, op_ne, fun x y H Q hx hy k => by
  cases hx; cases hy
  refine ⟨rfl, ?_⟩
  have e : decide (V.bl i = V.bl j) = decide (i = j) := by
    by_cases z : i = j
    · subst z; simp
    · rw [decide_eq_false z, decide_eq_false fun q => z (V.bl.inj q)]
  rw [e]; exact k H (Ex.refl H)⟩
theorem c_lt {i j : Int} : CmpD X .Lt (.int i) (.int j) (decide (i < j)) := ⟨_, op_lt, fun x y H Q hx hy k => by cases hx; cases hy; exact ⟨i, j, rfl, rfl, k H (Ex.refl H)⟩⟩
theorem c_le {i j : Int} : CmpD X .LtE (.int i) (.int j) (decide (i ≤ j)) := ⟨_, op_le, fun x y H Q hx hy k => by cases hx; cases hy; exact ⟨i, j, rfl, rfl, k H (Ex.refl H)⟩⟩
theorem c_gt {i j : Int} : CmpD X .Gt (.int i) (.int j) (decide (j < i)) := ⟨_, op_gt, fun x y H Q hx hy k => by cases hx; cases hy; exact ⟨i, j, rfl, rfl, k H (Ex.refl H)⟩⟩
theorem c_ge {i j : Int} : CmpD X .GtE (.int i) (.int j) (decide (j ≤ i)) := ⟨_, op_ge, fun x y H Q hx hy k => by cases hx; cases hy; exact ⟨i, j, rfl, rfl, k H (Ex.refl H)⟩⟩
def Dt.isNone : Dt → Bool
  | .non => true
  | _ => false
theorem da_none {x : V} (h : Da X.prog X.w X.K H x d) : decide (x = .non) = d.isNone := by cases h <;> rfl
theorem c_isN : CmpD X .Is d .non d.isNone := ⟨_, op_isN, fun x y H Q hx hy k => by cases hy; exact ⟨rfl, by rw [da_none hx]; exact k H (Ex.refl H)⟩⟩
theorem c_notN : CmpD X .IsNot d .non (!d.isNone) := ⟨_, op_notN, fun x y H Q hx hy k => by cases hy; exact ⟨rfl, by rw [da_none hx]; exact k H (Ex.refl H)⟩⟩

/-! ### and, or, not -/
theorem dt_val {b' : Bool} (h : DE T X ε e (.bl b')) (he : ∀ whole, isTrue e X.env whole = (do let v ← whole; standAt e.pos; holding [v] (truthy v)) := by intro _; rfl) : DT T X ε e b' :=
  .of (pt_val h.pe he) fun σ H H0 ev => one1 ev fun x H1 g hx => by cases hx; exact ⟨b', rfl, rfl, g⟩
theorem dw_and1 {b' : Bool} (h : DT T X ε a b') : DW T X ε (.BoolOp .And [a] pos) b' := .of (pw_and1 h.pt) fun σ H H0 ev => ⟨H0, ev, fun H' g => ⟨rfl, g⟩⟩
theorem dw_or1 {b' : Bool} (h : DT T X ε a b') : DW T X ε (.BoolOp .Or [a] pos) b' := .of (pw_or1 h.pt) fun σ H H0 ev => ⟨H0, ev, fun H' g => ⟨rfl, g⟩⟩
theorem dw_and {b1 b2 : Bool} {rest : List Expr} (h1 : DT T X ε a b1) (h2 : b1 = true → DW T X ε (.BoolOp .And (b :: rest) pos) b2) : DW T X ε (.BoolOp .And (a :: b :: rest) pos) (b1 && b2) := by
  cases b1 with
  | true =>
    refine .of (pw_and h1.pt (h2 rfl).pw) fun σ H H0 ev => ⟨H0, ev, fun H' g => ?_⟩
    exact iteT ⟨H0, ev.grow g, fun H2 g2 => ⟨rfl, g.trans g2⟩⟩
  | false =>
    refine .of (pw_and h1.pt (tB' := fun _ _ _ => False) ⟨fun _ _ _ _ _ _ _ q => q.elim⟩) fun σ H H0 ev => ⟨H0, ev, fun H' g => ?_⟩
    exact iteF ⟨rfl, g⟩
theorem dw_or {b1 b2 : Bool} {rest : List Expr} (h1 : DT T X ε a b1) (h2 : b1 = false → DW T X ε (.BoolOp .Or (b :: rest) pos) b2) : DW T X ε (.BoolOp .Or (a :: b :: rest) pos) (b1 || b2) := by
  cases b1 with
  | true =>
    refine .of (pw_or h1.pt (tB' := fun _ _ _ => False) ⟨fun _ _ _ _ _ _ _ q => q.elim⟩) fun σ H H0 ev => ⟨H0, ev, fun H' g => ?_⟩
    exact iteT ⟨rfl, g⟩
  | false =>
    refine .of (pw_or h1.pt (h2 rfl).pw) fun σ H H0 ev => ⟨H0, ev, fun H' g => ?_⟩
    exact iteF ⟨H0, ev.grow g, fun H2 g2 => ⟨rfl, g.trans g2⟩⟩
theorem dt_not {b' : Bool} (h : DT T X ε a b') : DT T X ε (.UnaryOp .Not a pos) (!b') := .of (pt_not h.pt) fun σ H H0 ev => ⟨H0, ev, fun H' g => ⟨rfl, g⟩⟩
theorem de_one {op} (h : DE T X ε a d) : DE T X ε (.BoolOp op [a] pos) d := .of (pe_one h.pe) fun σ H H0 ev => ⟨H0, ev, fun v H' q => q⟩
theorem de_and {b1 b2 : Bool} {rest : List Expr} (h1 : DE T X ε a (.bl b1)) (h2 : b1 = true → DE T X ε (.BoolOp .And (b :: rest) pos) (.bl b2)) : DE T X ε (.BoolOp .And (a :: b :: rest) pos) (.bl (b1 && b2)) := by
  cases b1 with
  | true =>
    refine .of (pe_and h1.pe (h2 rfl).pe) fun σ H H0 ev => one1 ev fun x H1 g hx => ?_
    cases hx
    refine ⟨true, rfl, ?_⟩
    exact iteT ⟨H0, ev.grow g, fun v H2 ⟨g2, q⟩ => ⟨g.trans g2, q⟩⟩
  | false =>
    refine .of (pe_and h1.pe (tb := fun _ _ _ => False) ⟨fun _ _ _ _ _ _ q => q.elim⟩) fun σ H H0 ev => one1 ev fun x H1 g hx => ?_
    cases hx
    refine ⟨false, rfl, ?_⟩
    exact iteF ⟨g, .bl false⟩
theorem de_or {b1 b2 : Bool} {rest : List Expr} (h1 : DE T X ε a (.bl b1)) (h2 : b1 = false → DE T X ε (.BoolOp .Or (b :: rest) pos) (.bl b2)) : DE T X ε (.BoolOp .Or (a :: b :: rest) pos) (.bl (b1 || b2)) := by
  cases b1 with
  | true =>
    refine .of (pe_or h1.pe (tb := fun _ _ _ => False) ⟨fun _ _ _ _ _ _ q => q.elim⟩) fun σ H H0 ev => one1 ev fun x H1 g hx => ?_
    cases hx
    refine ⟨true, rfl, ?_⟩
    exact iteT ⟨g, .bl true⟩
  | false =>
    refine .of (pe_or h1.pe (h2 rfl).pe) fun σ H H0 ev => one1 ev fun x H1 g hx => ?_
    cases hx
    refine ⟨false, rfl, ?_⟩
    exact iteF ⟨H0, ev.grow g, fun v H2 ⟨g2, q⟩ => ⟨g.trans g2, q⟩⟩
theorem de_not {b' : Bool} (h : DE T X ε a (.bl b')) : DE T X ε (.UnaryOp .Not a pos) (.bl (!b')) := .of (pe_not h.pe) fun σ H H0 ev => one1 ev fun x H1 g hx => by cases hx; exact ⟨b', rfl, g, .bl _⟩

/-! ### items, displays -/
theorem ixV_atI {ds : List Dt} {xs : List V} {i : Int} {P : Program} {w : World} {K : PySem.W.Frag} {H : Hp} (h : DaAll P w K H xs ds) (hi : atI ds i = some d) : ∃ v, atI xs i = some v ∧ Da P w K H v d := by
  unfold atI at hi ⊢
  rw [h.length]
  cases q : ixN ds.length i with
  | none => rw [q] at hi; cases hi
  | some j =>
    rw [q] at hi
    exact h.get hi
theorem de_ixT {ds : List Dt} {i : Int} (ha : DE T X ε a (.tup ds)) (hb : DE T X ε b (.int i)) (hi : atI ds i = some d) (hs : PlainIx b := by intro _ _; rfl) : DE T X ε (.Subscript a b pos) d :=
  .of (pe_ix ix_tup ha.pe hb.pe hs) fun σ H H0 ev => two2 ev fun x y H2 g hx hy => by
    cases hy
    cases hx with
    | @tup p xs _ h1 a1 =>
      obtain ⟨v, h2, h3⟩ := ixV_atI a1 hi
      exact ⟨p, xs, i, v, rfl, rfl, SqT.of h1, h2, g, h3⟩
theorem de_ixL {ds : List Dt} {i : Int} (ha : DE T X ε a (.lst ds)) (hb : DE T X ε b (.int i)) (hi : atI ds i = some d) (hs : PlainIx b := by intro _ _; rfl) : DE T X ε (.Subscript a b pos) d :=
  .of (pe_ix ix_list ha.pe hb.pe hs) fun σ H H0 ev => two2 ev fun x y H2 g hx hy => by
    cases hy
    cases hx with
    | @lst p xs _ h1 a1 =>
      obtain ⟨v, h2, h3⟩ := ixV_atI a1 hi
      exact ⟨p, xs, i, v, rfl, rfl, SqL.of h1, h2, g, h3⟩
theorem de_ixS {r : Addr} {ns : List Int} {i z : Int} (ha : DE T X ε a (.scr r ns)) (hb : DE T X ε b (.int i)) (hi : atI ns i = some z) (hs : PlainIx b := by intro _ _; rfl) : DE T X ε (.Subscript a b pos) (.int z) :=
  .of (pe_ix ix_list ha.pe hb.pe hs) fun σ H H0 ev => two2 ev fun x y H2 g hx hy => by
    cases hy
    cases hx with
    | scr h1 =>
      refine ⟨r, _, i, .int z, rfl, rfl, h1, ?_, g, .int z⟩
      unfold atI at hi ⊢
      rw [List.length_map]
      cases q : ixN ns.length i with
      | none => rw [q] at hi; cases hi
      | some j =>
        rw [q] at hi
        show (ns.map V.int)[j]? = _
        have hi' : ns[j]? = some z := hi
        rw [List.getElem?_map, hi'] <;> rfl
theorem da_nil : DA T X ε [] [] := .of pa_nil fun σ H H0 ev => ⟨Ex.refl H, .nil⟩
theorem da_cons (ha : DE T X ε e d) (hr : DA T X ε es ds) (hs : starEach (e :: es) X.env = (false, eval e X.env) :: starEach es X.env := by rfl) : DA T X ε (e :: es) (d :: ds) :=
  .of (pa_cons ha.pe hr.pa hs) fun σ H H0 ev => one1 ev fun x H1 g hx => ⟨H0, ev.grow g, fun vs H2 g2 h2 => ⟨g.trans g2, .cons (hx.ex g2) h2⟩⟩
theorem de_tup {x1} (h : DA T X ε es ds) (hl : ds.length ≤ 100000 := by exact Nat.le_of_ble_eq_true rfl) : DE T X ε (.Tuple es x1 pos) (.tup ds) :=
  .of (pe_tup h.pa) fun σ H H0 ev => argsG ev fun vs H1 g hv => ⟨by rw [hv.length, sizeLine_eq]; omega, fun p hp => ⟨g.trans (Ex.new hp), .tup upd_same (hv.ex (Ex.new hp))⟩⟩
theorem dn_lst (h : DA T X ε es ds) (i : (immAll ds || noOwn ε) = true) (hl : ds.length ≤ 100000 := by exact Nat.le_of_ble_eq_true rfl) : DN T X ε (.List es pos) ds :=
  .of (pe_lst h.pa) fun σ H H0 ev => argsG ev fun vs H1 g hv => ⟨by rw [hv.length, sizeLine_eq]; omega, newLN ev g hv i⟩
end
end Cp
end
section
set_option maxHeartbeats 4000000
/-! Calls, statements, loops. -/
namespace Cp
open PySem PySem.Spec PyProof.Rows L2 LamX

/-! ### contracts -/
def Dt.isNew : Dt → Bool
  | .lst _ => true
  | .dic _ => true
  | _ => false
/-- a list, a dict handed back is new -/
def Frs (H : Hp) (v : V) (d : Dt) : Prop := d.isNew = true → ∃ p, v = .ref p ∧ H p = none
def spD (T : List (Addr × Str)) (P : Program) (w : World) (K : PySem.W.Frag) (n : Nat) (R : List Dt → Dt → Prop) : Sp := fun vs H Q _ => Tb T H ∧ ∃ ds d, DaAll P w K H vs ds ∧ ds.length = n ∧ R ds d ∧
  ∀ v H', Ex H H' → Da P w K H' v d → Frs H v d → Q v H'
structure FnD (T : List (Addr × Str)) (P : Program) (w : World) (K : PySem.W.Frag) (mg : Str → Option Value) (base : Heap) (x : Str) (k : Nat) (ps : List Str) (R : List Dt → Dt → Prop) : Prop where
  ok : ∃ f fd, FnOk P w K mg base CX0 k f fd ps (spD T P w K ps.length R) ∧ mg x = some (.ref f) ∧ PySem.W.keepIn K (.ref f) = true ∧ Binds K fd ps []
section
variable {T : List (Addr × Str)} {X : Cx} {ε : List Sl} {e a b c : Expr} {es : List Expr} {d d1 d2 : Dt} {ds : List Dt} {G : GP} {pos : Pos}
theorem sp_dt {n : Nat} {R : List Dt → Dt → Prop} {σ : L2.St} {H H0 H1 : Hp} {vs : List V} {E : XK} (ev : EnvOk X.prog X.w X.K T H0 H σ ε) (g : Ex H H1) (hv : DaAll X.prog X.w X.K H1 vs ds) (hl : ds.length = n) (hR : R ds d) :
    spD T X.prog X.w X.K n R (vs ++ []) H1 (fun v H' => gE X d (owns σ ε) H v H' ∧ Frs H v d) E := by
  rw [List.append_nil]
  exact ⟨g.tabs T ev.tabs, ds, d, hv, hl, hR, fun v H' g2 h f => ⟨⟨g.trans g2, h⟩, fun q => let ⟨p, e1, e2⟩ := f q; ⟨p, e1, g.back e2⟩⟩⟩
theorem sp_mono {n : Nat} {R : List Dt → Dt → Prop} {vs : List V} {H : Hp} {Q Q' : VK} {E : XK} {P : Program} {w : World} {K : PySem.W.Frag} (h : spD T P w K n R vs H Q E) (k : ∀ v H', Q v H' → Q' v H') : spD T P w K n R vs H Q' E := by
  obtain ⟨t, ds, d, h1, h2, h3, h4⟩ := h
  exact ⟨t, ds, d, h1, h2, h3, fun v H' a b c => k v H' (h4 v H' a b c)⟩
/-- a list handed back, of data that no store changes: a new list -/
theorem new_of {H H' : Hp} {σ : L2.St} {H0 : Hp} {v : V} (ev : EnvOk X.prog X.w X.K T H0 H σ ε) (h : gE X (.lst ds) (owns σ ε) H v H') (f : Frs H v (.lst ds)) (i : immAll ds = true) : gN X ds (owns σ ε) H v H' := by
  obtain ⟨g, h⟩ := h
  obtain ⟨p, e1, e2⟩ := f rfl
  cases h with
  | @lst q xs _ h1 a1 =>
    cases e1
    have own1 : ∀ a ∈ [p], OwnAt H' a := fun a ha => by
      have : a = p := by simpa using ha
      subst this; exact .inl ⟨xs, h1⟩
    refine ⟨cut [p] H', p, xs, rfl, ?_, cut_in (by simp), ?_, ?_⟩
    · refine ⟨fun b o z n => ?_, fun b ps z => ?_, fun T' t => tabs_cut own1 T' (g.tabs T' t)⟩
      · rw [cut_out (by simp; exact ne_of_none z e2)]; exact g.keep b o z n
      · rw [cut_out (by simp; exact ne_of_none z e2)]; exact g.tbl b ps z
    · funext b
      by_cases hb : b = p
      · subst hb; rw [upd_same, h1]
      · rw [upd_ne hb, cut_out (by simpa using hb)]
    · exact (a1.imm_cut own1 i).imm_cut (fun a ha => by
        have np : a ≠ p := fun z => by subst z; exact (ev.own a ha).there e2
        rcases (ev.own a ha).ex g with ⟨ys, z⟩ | ⟨P, w, es, z⟩ | ⟨C, dx, fs, z⟩
        · exact .inl ⟨ys, by rw [cut_out (by simpa using np)]; exact z⟩
        · exact .inr (.inl ⟨P, w, es, by rw [cut_out (by simpa using np)]; exact z⟩)
        · exact .inr (.inr ⟨C, dx, fs, by rw [cut_out (by simpa using np)]; exact z⟩)) i

/-! ### calls of the program's own defs -/
section
variable {x : Str} {p : Pos} {k j : Nat} {ps : List Str} {R : List Dt → Dt → Prop}
theorem dg_call (F : FnD T X.prog X.w X.K X.mg X.base x k ps R) (hr : Room j X.A) (hk : k ≤ j) (hg : Gl X x) (ha : DA T X ε (e :: es) ds) (hl : ds.length = ps.length) (hR : R ds d) (hdb : (x == ("__debug__" : Str)) = false)
    (he : starEach (e :: es) X.env = (false, eval e X.env) :: starEach es X.env) (hpl : (backTo pos (starEach es X.env)).any (·.1) = false) :
    DG T X ε (.Call (.Name x p) (e :: es) [] pos) (fun A H v H' => gE X d A H v H' ∧ Frs H v d) := by
  obtain ⟨f, fd, F1, F2, F3, F4⟩ := F.ok
  exact .of (pe_call F1 (hr.mono hk) hg F2 F3 F4 .nil pass0 ha.pa hdb he hpl) fun σ H H0 ev => argsG ev fun vs H1 g hv => sp_dt ev g hv hl hR
theorem de_call (F : FnD T X.prog X.w X.K X.mg X.base x k ps R) (hr : Room j X.A) (ha : DA T X ε (e :: es) ds) (hR : R ds d) (hk : k ≤ j := by decide) (hl : ds.length = ps.length := by rfl) (hg : Gl X x := by rfl) (hdb : (x == ("__debug__" : Str)) = false := by decide)
    (he : starEach (e :: es) X.env = (false, eval e X.env) :: starEach es X.env := by rfl) (hpl : (backTo pos (starEach es X.env)).any (·.1) = false := by rfl) : DE T X ε (.Call (.Name x p) (e :: es) [] pos) d :=
  (dg_call F hr hk hg ha hl hR hdb he hpl).imp fun σ H H0 ev v H' h => h.1
theorem dn_call {ds' : List Dt} (F : FnD T X.prog X.w X.K X.mg X.base x k ps R) (hr : Room j X.A) (ha : DA T X ε (e :: es) ds) (hR : R ds (.lst ds')) (i : immAll ds' = true) (hk : k ≤ j := by decide) (hl : ds.length = ps.length := by rfl) (hg : Gl X x := by rfl) (hdb : (x == ("__debug__" : Str)) = false := by decide)
    (he : starEach (e :: es) X.env = (false, eval e X.env) :: starEach es X.env := by rfl) (hpl : (backTo pos (starEach es X.env)).any (·.1) = false := by rfl) : DN T X ε (.Call (.Name x p) (e :: es) [] pos) ds' :=
  (dg_call F hr hk hg ha hl hR hdb he hpl).imp fun σ H H0 ev v H' h => new_of ev h.1 h.2 i
/-- a dict handed back, of data that no store changes -/
theorem new_ofD {H H' : Hp} {σ : L2.St} {H0 : Hp} {v : V} {kvs : List (NK × Dt)} (ev : EnvOk X.prog X.w X.K T H0 H σ ε) (h : gE X (.dic kvs) (owns σ ε) H v H') (f : Frs H v (.dic kvs)) (i : ∀ p ∈ kvs, p.2.imm = true) : gD X kvs (owns σ ε) H v H' := by
  obtain ⟨g, h⟩ := h
  obtain ⟨p, e1, e2⟩ := f rfl
  cases h with
  | @dic q es _ h1 a1 n l sm =>
    cases e1
    have own1 : ∀ a ∈ [p], OwnAt H' a := fun a ha => by
      have : a = p := by simpa using ha
      subst this; exact .inr (.inl ⟨_, _, es, h1⟩)
    refine ⟨cut [p] H', p, es, rfl, ?_, cut_in (by simp), ?_, ?_, n, l, sm⟩
    · refine ⟨fun b o z n => ?_, fun b ps z => ?_, fun T' t => tabs_cut own1 T' (g.tabs T' t)⟩
      · rw [cut_out (by simp; exact ne_of_none z e2)]; exact g.keep b o z n
      · rw [cut_out (by simp; exact ne_of_none z e2)]; exact g.tbl b ps z
    · funext b
      by_cases hb : b = p
      · subst hb; rw [upd_same, h1]
      · rw [upd_ne hb, cut_out (by simpa using hb)]
    · refine a1.monoI (fun b xs q => ?_) i
      refine own_tup (fun a ha => ?_) b xs (own_tup own1 b xs q)
      have np : a ≠ p := fun z => by subst z; exact (ev.own a ha).there e2
      rcases (ev.own a ha).ex g with ⟨ys, z⟩ | ⟨P, w, es, z⟩ | ⟨C, dx, fs, z⟩
      · exact .inl ⟨ys, by rw [cut_out (by simpa using np)]; exact z⟩
      · exact .inr (.inl ⟨P, w, es, by rw [cut_out (by simpa using np)]; exact z⟩)
      · exact .inr (.inr ⟨C, dx, fs, by rw [cut_out (by simpa using np)]; exact z⟩)
theorem dd_call {kvs : List (NK × Dt)} (F : FnD T X.prog X.w X.K X.mg X.base x k ps R) (hr : Room j X.A) (ha : DA T X ε (e :: es) ds) (hR : R ds (.dic kvs)) (i : ∀ p ∈ kvs, p.2.imm = true) (hk : k ≤ j := by decide) (hl : ds.length = ps.length := by rfl) (hg : Gl X x := by rfl) (hdb : (x == ("__debug__" : Str)) = false := by decide)
    (he : starEach (e :: es) X.env = (false, eval e X.env) :: starEach es X.env := by rfl) (hpl : (backTo pos (starEach es X.env)).any (·.1) = false := by rfl) : DD T X ε (.Call (.Name x p) (e :: es) [] pos) kvs :=
  (dg_call F hr hk hg ha hl hR hdb he hpl).imp fun σ H H0 ev v H' h => new_ofD ev h.1 h.2 i
end
/-! ### methods of instances -/
section
variable {m : Str} {o : Expr} {apos : Pos} {k j : Nat} {ps : List Str} {R : List Dt → Dt → Prop} {C : Addr} {fs : List (Str × Dt)}
structure FnM (T : List (Addr × Str)) (P : Program) (w : World) (K : PySem.W.Frag) (mg : Str → Option Value) (base : Heap) (C : Addr) (m : Str) (k : Nat) (ps : List Str) (R : List Dt → Dt → Prop) : Prop where
  cls : Cls K C
  ok : ∃ f fd, FnOk P w K mg base CX0 k f fd ps (spD T P w K ps.length R) ∧ Meth K C m f ∧ Binds K fd ps []
theorem daFs_lookup {P : Program} {w : World} {K : PySem.W.Frag} {H : Hp} : ∀ {fs : List (Str × V)} {gs : List (Str × Dt)} {f : Str}, DaFs P w K H fs gs → gs.lookup f = none → fs.lookup f = none
  | _, _, _, .nil, _ => rfl
  | _, _, f, .cons (f := g) a b, h => by
    have h2 : (match f == g with | true => _ | false => _) = none := h
    show (match f == g with | true => _ | false => _) = none
    cases q : f == g with
    | true => rw [q] at h2; cases h2
    | false => rw [q] at h2; exact daFs_lookup b h2
theorem daFs_get {P : Program} {w : World} {K : PySem.W.Frag} {H : Hp} : ∀ {fs : List (Str × V)} {gs : List (Str × Dt)} {f : Str} {d : Dt}, DaFs P w K H fs gs → gs.lookup f = some d → ∃ v, fs.lookup f = some v ∧ Da P w K H v d
  | _, _, _, _, .nil, h => by cases h
  | _, _, f, d, .cons (f := g) (v := v) a b, h => by
    have h2 : (match f == g with | true => _ | false => _) = some d := h
    show ∃ v', (match f == g with | true => _ | false => _) = some v' ∧ _
    cases q : f == g with
    | true => rw [q] at h2; cases h2; exact ⟨v, rfl, a⟩
    | false => rw [q] at h2; exact daFs_get b h2
theorem dg_meth {pl : Sem Bool} (F : FnM T X.prog X.w X.K X.mg X.base C m k ps R) (hr : Room j X.A) (hk : k ≤ j) (ho : DE T X ε o (.obj C fs)) (hf : fs.lookup m = none) (ha : DA T X ε (e :: es) ds) (hl : (Dt.obj C fs :: ds).length = ps.length) (hR : R (.obj C fs :: ds) d)
    (hst : starEach (e :: es) X.env = (false, eval e X.env) :: starEach es X.env) (hpl : (backTo pos (starEach es X.env)).any (·.1) = false)
    (ht : eval (.Call (.Attribute o m apos) (e :: es) [] pos) X.env = (do
      let ov ← eval o X.env
      standAt apos.atName
      let (f, first) ← holding [ov] (getMethod ov m pl)
      callWith pos f first (backTo pos (starEach (e :: es) X.env)) (backToKw pos (keywordEach [] X.env)))) :
    DG T X ε (.Call (.Attribute o m apos) (e :: es) [] pos) (fun A H v H' => gE X d A H v H' ∧ Frs H v d) := by
  obtain ⟨f, fd, F1, F2, F3⟩ := F.ok
  exact .of (pe_meth ho.pe F.cls F2 F1 (hr.mono hk) F3 .nil pass0 ha.pa hst hpl ht) fun σ H H0 ev => one1 ev fun x H1 g hx => by
    cases hx with
    | @obj a C' dx fs' _ h1 a1 =>
      refine ⟨a, dx, fs', rfl, h1, daFs_lookup a1 hf, H0, ev.grow g, fun vs H2 g2 hv => ?_⟩
      have hv2 : DaAll X.prog X.w X.K H2 (.ref a :: vs) (.obj C fs :: ds) := .cons ((Da.obj h1 a1).ex g2) hv
      have := sp_dt (E := E0) ev (g.trans g2) hv2 hl hR
      rw [List.append_nil] at this
      show spD T X.prog X.w X.K ps.length R (V.ref a :: (vs ++ [])) H2 _ E0
      rw [List.append_nil]
      exact this
theorem de_meth {pl : Sem Bool} (F : FnM T X.prog X.w X.K X.mg X.base C m k ps R) (hr : Room j X.A) (ho : DE T X ε o (.obj C fs)) (hf : fs.lookup m = none) (ha : DA T X ε (e :: es) ds) (hR : R (.obj C fs :: ds) d) (hk : k ≤ j := by decide) (hl : (Dt.obj C fs :: ds).length = ps.length := by rfl)
    (hst : starEach (e :: es) X.env = (false, eval e X.env) :: starEach es X.env := by rfl) (hpl : (backTo pos (starEach es X.env)).any (·.1) = false := by rfl)
    (ht : eval (.Call (.Attribute o m apos) (e :: es) [] pos) X.env = (do
      let ov ← eval o X.env
      standAt apos.atName
      let (f, first) ← holding [ov] (getMethod ov m pl)
      callWith pos f first (backTo pos (starEach (e :: es) X.env)) (backToKw pos (keywordEach [] X.env))) := by rfl) : DE T X ε (.Call (.Attribute o m apos) (e :: es) [] pos) d :=
  (dg_meth F hr hk ho hf ha hl hR hst hpl ht).imp fun σ H H0 ev v H' h => h.1
theorem dn_meth {pl : Sem Bool} {ds' : List Dt} (F : FnM T X.prog X.w X.K X.mg X.base C m k ps R) (hr : Room j X.A) (ho : DE T X ε o (.obj C fs)) (hf : fs.lookup m = none) (ha : DA T X ε (e :: es) ds) (hR : R (.obj C fs :: ds) (.lst ds')) (i : immAll ds' = true) (hk : k ≤ j := by decide) (hl : (Dt.obj C fs :: ds).length = ps.length := by rfl)
    (hst : starEach (e :: es) X.env = (false, eval e X.env) :: starEach es X.env := by rfl) (hpl : (backTo pos (starEach es X.env)).any (·.1) = false := by rfl)
    (ht : eval (.Call (.Attribute o m apos) (e :: es) [] pos) X.env = (do
      let ov ← eval o X.env
      standAt apos.atName
      let (f, first) ← holding [ov] (getMethod ov m pl)
      callWith pos f first (backTo pos (starEach (e :: es) X.env)) (backToKw pos (keywordEach [] X.env))) := by rfl) : DN T X ε (.Call (.Attribute o m apos) (e :: es) [] pos) ds' :=
  (dg_meth F hr hk ho hf ha hl hR hst hpl ht).imp fun σ H H0 ev v H' h => new_of ev h.1 h.2 i
/-- a field -/
theorem de_fld {f : Str} (hc : Cls X.K C) (hn : NoAttr X.K C f) (ho : DE T X ε o (.obj C fs)) (hf : fs.lookup f = some d) (hb : attributeBase o f X.env (eval o X.env) = eval o X.env := by rfl) : DE T X ε (.Attribute o f pos) d :=
  .of (pe_fld ho.pe hb) fun σ H H0 ev => one1 ev fun x H1 g hx => by
    cases hx with
    | @obj a C' dx fs' _ h1 a1 =>
      obtain ⟨v, h2, h3⟩ := daFs_get a1 hf
      exact ⟨a, C, dx, fs', v, rfl, h1, hc, hn, h2, g, h3⟩
end
end

/-! ### statements -/
inductive Oc where
  | nx (ε : List Sl) | rt (d : Dt) | bk (ε : List Sl) | ct (ε : List Sl)
section
variable (T : List (Addr × Str)) (X : Cx)
def endsOf (H0 : Hp) (P : Oc → Prop) : Ends where
  nx := fun σ' H' => ∃ ε', EnvOk X.prog X.w X.K T H0 H' σ' ε' ∧ P (.nx ε')
  rt := fun v H' => ∃ d, Ex H0 H' ∧ Da X.prog X.w X.K H' v d ∧ Frs H0 v d ∧ P (.rt d)
  bk := fun σ' H' => ∃ ε', EnvOk X.prog X.w X.K T H0 H' σ' ε' ∧ P (.bk ε')
  ct := fun σ' H' => ∃ ε', EnvOk X.prog X.w X.K T H0 H' σ' ε' ∧ P (.ct ε')
structure DS (ε : List Sl) (st : Stmt) (P : Oc → Prop) : Prop where
  run : ∀ (pins : List (Addr × Obj)) (s : Shared) (σ : L2.St) (H H0 : Hp), Inv X pins σ H s → EnvOk X.prog X.w X.K T H0 H σ ε → wpAny (model X.prog X.w) X.A (exec st X.env) (SP X pins (endsOf T X H0 P)) X.xe s
structure DSs (ε : List Sl) (sts : List Stmt) (P : Oc → Prop) : Prop where
  run : ∀ (pins : List (Addr × Obj)) (s : Shared) (σ : L2.St) (H H0 : Hp), Inv X pins σ H s → EnvOk X.prog X.w X.K T H0 H σ ε → wpAny (model X.prog X.w) X.A (execs sts X.env) (SP X pins (endsOf T X H0 P)) X.xe s
/-- D follows from these ends -/
structure Imp (H0 : Hp) (P : Oc → Prop) (D : Ends) : Prop where
  nx : ∀ σ' H', (endsOf T X H0 P).nx σ' H' → D.nx σ' H'
  rt : ∀ v H', (endsOf T X H0 P).rt v H' → D.rt v H'
  bk : ∀ σ' H', (endsOf T X H0 P).bk σ' H' → D.bk σ' H'
  ct : ∀ σ' H', (endsOf T X H0 P).ct σ' H' → D.ct σ' H'
def tS (ε : List Sl) (P : Oc → Prop) : TS := fun D σ H => ∃ H0, EnvOk X.prog X.w X.K T H0 H σ ε ∧ Imp T X H0 P D
end
section
variable {T : List (Addr × Str)} {X : Cx} {ε : List Sl} {e a b c : Expr} {es : List Expr} {d d1 d2 : Dt} {ds : List Dt} {pos : Pos} {st : Stmt} {sts rest : List Stmt} {P P1 : Oc → Prop}
theorem sp_imp {pins : List (Addr × Obj)} {D D' : Ends} {f : Flow} {s : Shared} (h : SP X pins D f s) (n : ∀ σ H, D.nx σ H → D'.nx σ H) (r : ∀ v H, D.rt v H → D'.rt v H) (b : ∀ σ H, D.bk σ H → D'.bk σ H) (c : ∀ σ H, D.ct σ H → D'.ct σ H) : SP X pins D' f s := by
  cases f with
  | next => obtain ⟨σ, H, I, q⟩ := h; exact ⟨σ, H, I, n σ H q⟩
  | brk => obtain ⟨σ, H, I, q⟩ := h; exact ⟨σ, H, I, b σ H q⟩
  | cont => obtain ⟨σ, H, I, q⟩ := h; exact ⟨σ, H, I, c σ H q⟩
  | ret u => obtain ⟨v, σ, H, I, rv, q⟩ := h; exact ⟨v, σ, H, I, rv, r v H q⟩
theorem DS.ps (h : DS T X ε st P) : PS X st (tS T X ε P) := ⟨fun pins s σ H D I ⟨H0, ev, k⟩ => thn (h.run pins s σ H H0 I ev) fun f s' q => sp_imp q k.nx k.rt k.bk k.ct⟩
theorem DSs.pss (h : DSs T X ε sts P) : PSs X sts (tS T X ε P) := ⟨fun pins s σ H D I ⟨H0, ev, k⟩ => thn (h.run pins s σ H H0 I ev) fun f s' q => sp_imp q k.nx k.rt k.bk k.ct⟩
theorem DS.of {t : TS} (p : PS X st t) (h : ∀ σ H H0, EnvOk X.prog X.w X.K T H0 H σ ε → t (endsOf T X H0 P) σ H) : DS T X ε st P := ⟨fun pins s σ H H0 I ev => p.run pins s σ H _ I (h σ H H0 ev)⟩
theorem DSs.of {t : TS} (p : PSs X sts t) (h : ∀ σ H H0, EnvOk X.prog X.w X.K T H0 H σ ε → t (endsOf T X H0 P) σ H) : DSs T X ε sts P := ⟨fun pins s σ H H0 I ev => p.run pins s σ H _ I (h σ H H0 ev)⟩
theorem Imp.refl {H0 : Hp} : Imp T X H0 P (endsOf T X H0 P) := ⟨fun _ _ h => h, fun _ _ h => h, fun _ _ h => h, fun _ _ h => h⟩
/-- what follows: the rest -/
def thenP (T : List (Addr × Str)) (X : Cx) (rest : List Stmt) (P : Oc → Prop) : Oc → Prop
  | .nx ε' => DSs T X ε' rest P
  | o => P o
theorem d_nil (h : P (.nx ε)) : DSs T X ε [] P := .of pss_nil fun σ H H0 ev => ⟨ε, ev, h⟩
theorem d_cons (h : DS T X ε st (thenP T X rest P)) : DSs T X ε (st :: rest) P := by
  have pr : PSs X rest (fun D σ H => ∃ ε' H0, DSs T X ε' rest P ∧ EnvOk X.prog X.w X.K T H0 H σ ε' ∧ Imp T X H0 P D) := ⟨fun pins s σ H D I ⟨ε', H0, hd, ev, k⟩ => hd.pss.run pins s σ H D I ⟨H0, ev, k⟩⟩
  exact .of (pss_cons h.ps pr) fun σ H H0 ev => ⟨H0, ev, ⟨fun σ' H' ⟨ε', ev', q⟩ => ⟨ε', H0, q, ev', Imp.refl⟩, fun v H' q => q, fun σ' H' q => q, fun σ' H' q => q⟩⟩
theorem d_one (h : DS T X ε st P) : DSs T X ε [st] P := .of (pss_one h.ps) fun σ H H0 ev => ⟨H0, ev, Imp.refl⟩
theorem DS.imp (h : DS T X ε st P1) (k : ∀ o, P1 o → P o) : DS T X ε st P := .of h.ps fun σ H H0 ev => ⟨H0, ev, ⟨fun _ _ ⟨ε', a, b⟩ => ⟨ε', a, k _ b⟩, fun _ _ ⟨d, a, b, c, e⟩ => ⟨d, a, b, c, k _ e⟩, fun _ _ ⟨ε', a, b⟩ => ⟨ε', a, k _ b⟩, fun _ _ ⟨ε', a, b⟩ => ⟨ε', a, k _ b⟩⟩⟩
theorem DSs.imp (h : DSs T X ε sts P1) (k : ∀ o, P1 o → P o) : DSs T X ε sts P := .of h.pss fun σ H H0 ev => ⟨H0, ev, ⟨fun _ _ ⟨ε', a, b⟩ => ⟨ε', a, k _ b⟩, fun _ _ ⟨d, a, b, c, e⟩ => ⟨d, a, b, c, k _ e⟩, fun _ _ ⟨ε', a, b⟩ => ⟨ε', a, k _ b⟩, fun _ _ ⟨ε', a, b⟩ => ⟨ε', a, k _ b⟩⟩⟩

/-! #### assignment -/
/-- the target takes d: the slots js may change, f tells the slots behind -/
def SameBut (js : List Nat) (σ σ' : L2.St) : Prop := σ'.length = σ.length ∧ ∀ i, i ∉ js → σ'[i]? = σ[i]?
structure DTg (T : List (Addr × Str)) (X : Cx) (tg : Expr) (d : Dt) (js : List Nat) (f : List Sl → List Sl) : Prop where
  run : ∀ (pins : List (Addr × Obj)) (s : Shared) (σ : L2.St) (H H0 : Hp) (ε : List Sl) (v : V) (u : Value), Inv X pins σ H s → RelV v u → EnvOk X.prog X.w X.K T H0 H σ ε → Da X.prog X.w X.K (cut (owns σ ε) H) v d →
    wpAny (model X.prog X.w) X.A (assign tg X.env u) (fun _ s' => ∃ σ' H', Inv X pins σ' H' s' ∧ EnvOk X.prog X.w X.K T H0 H' σ' (f ε) ∧ SameBut js σ σ' ∧ Ex H H') X.xe s
def gTg (T : List (Addr × Str)) (X : Cx) (tg : Expr) : TG := fun v σ H Q => ∃ d js f ε H0, DTg T X tg d js f ∧ EnvOk X.prog X.w X.K T H0 H σ ε ∧ Da X.prog X.w X.K (cut (owns σ ε) H) v d ∧ ∀ σ' H', EnvOk X.prog X.w X.K T H0 H' σ' (f ε) → SameBut js σ σ' → Ex H H' → Q σ' H'
theorem pg_tg {tg : Expr} : PG X tg (gTg T X tg) := ⟨fun pins s σ H v u Q I r ⟨d, js, f, ε, H0, t, ev, h, k⟩ => thn (t.run pins s σ H H0 ε v u I r ev h) fun _ s' ⟨σ', H', I', ev', sb, g⟩ => ⟨σ', H', I', k σ' H' ev' sb g⟩⟩
theorem tg_name (i : Nat) {x : Str} (hN : X.N.Nodup) (hi : X.N[i]? = some x := by rfl) (hx : Loc X.env.scope x := by first | exact Or.inl rfl | exact Or.inr rfl) (hf : X.fn x = true ∨ X.env.scope.names.lookup x = some .local := by first | exact .inl rfl | exact .inr rfl) :
    DTg T X (.Name x pos) d [i] (fun ε => ε.set i (.val d)) :=
  ⟨fun pins s σ H H0 ε v u I r ev h => thn ((pg_name hN hi hx hf).run pins s σ H v u (fun σ' H' => σ' = σ.set i (some v) ∧ H' = H) I r ⟨rfl, rfl⟩) fun _ s' ⟨σ', H', I', e1, e2⟩ => ⟨σ', H', I', by rw [e1, e2]; exact ev.set i h, by
    rw [e1, e2]
    exact ⟨⟨List.length_set, fun j hj => List.getElem?_set_ne (fun z => hj (by simp [z]))⟩, Ex.refl H⟩⟩⟩
theorem d_asg {tg : Expr} {js : List Nat} {f : List Sl → List Sl} (he : DB T X ε e d) (ht : DTg T X tg d js f) (h : P (.nx (f ε))) (hs : swapsWithSole [tg] e pos.line X.env = pure false := by rfl) (hw : swappedStores [tg] e X.env = pure none := by rfl)
    (h1 : (assignEach [tg] X.env).map (·.2) = [assign tg X.env] := by rfl) : DS T X ε (.Assign [tg] e pos) P :=
  .of (ps_asg he.pe pg_tg hs hw h1) fun σ H H0 ev => ⟨H0, ev, fun v H' ⟨g, hv⟩ => ⟨d, js, f, ε, H0, ht, ev.grow g, hv, fun σ' H2 ev' _ _ => ⟨_, ev', h⟩⟩⟩
/-- name = e -/
theorem d_set (i : Nat) {x : Str} {pos' : Pos} (hN : X.N.Nodup) (he : DB T X ε e d) (h : P (.nx (ε.set i (.val d)))) (hi : X.N[i]? = some x := by rfl) (hx : Loc X.env.scope x := by first | exact Or.inl rfl | exact Or.inr rfl) (hs : swapsWith e (some (.Name x pos')) pos.line X.env = pure false := by rfl)
    (hf : X.fn x = true ∨ X.env.scope.names.lookup x = some .local := by first | exact .inl rfl | exact .inr rfl) : DS T X ε (.Assign [.Name x pos'] e pos) P :=
  .of (ps_set hN hi hx he.pe hs hf) fun σ H H0 ev => ⟨H0, ev, fun v H' ⟨g, hv⟩ => ⟨_, (ev.grow g).set i hv, h⟩⟩
theorem isSome_lt {α : Type} {l : List α} {i : Nat} (h : (l[i]?).isSome = true) : i < l.length := by
  rcases Nat.lt_or_ge i l.length with q | q
  · exact q
  · rw [List.getElem?_eq_none q] at h; cases h
/-- name = a new list of one's own -/
theorem d_setO (i : Nat) {x : Str} {pos' : Pos} (hN : X.N.Nodup) (he : DN T X ε e ds) (h : P (.nx (ε.set i (.ol ds)))) (hε : (ε[i]?).isSome = true := by rfl) (hi : X.N[i]? = some x := by rfl) (hx : Loc X.env.scope x := by first | exact Or.inl rfl | exact Or.inr rfl) (hs : swapsWith e (some (.Name x pos')) pos.line X.env = pure false := by rfl)
    (hf : X.fn x = true ∨ X.env.scope.names.lookup x = some .local := by first | exact .inl rfl | exact .inr rfl) : DS T X ε (.Assign [.Name x pos'] e pos) P :=
  .of (ps_set hN hi hx he.pe hs hf) fun σ H H0 ev => ⟨H0, ev, fun v H' ⟨H1, p, xs, e1, g, hp, e2, a⟩ => by
    subst e1 e2
    exact ⟨_, (ev.grow g).setO (s := .ol ds) i hp rfl (isSome_lt hε) ⟨p, xs, rfl, upd_same, a⟩, h⟩⟩
theorem d_setD (i : Nat) {x : Str} {pos' : Pos} {kvs : List (NK × Dt)} (hN : X.N.Nodup) (he : DD T X ε e kvs) (h : P (.nx (ε.set i (.od kvs)))) (hε : (ε[i]?).isSome = true := by rfl) (hi : X.N[i]? = some x := by rfl) (hx : Loc X.env.scope x := by first | exact Or.inl rfl | exact Or.inr rfl) (hs : swapsWith e (some (.Name x pos')) pos.line X.env = pure false := by rfl)
    (hf : X.fn x = true ∨ X.env.scope.names.lookup x = some .local := by first | exact .inl rfl | exact .inr rfl) : DS T X ε (.Assign [.Name x pos'] e pos) P :=
  .of (ps_set hN hi hx he.pe hs hf) fun σ H H0 ev => ⟨H0, ev, fun v H' ⟨H1, p, es, e1, g, hp, e2, a, n, l, sm⟩ => by
    subst e1 e2
    exact ⟨_, (ev.grow g).setO (s := .od kvs) i hp rfl (isSome_lt hε) ⟨p, es, rfl, upd_same, a, n, l, sm⟩, h⟩⟩

/-! #### return, if, pass, break, continue -/
theorem d_ret (he : DE T X ε e d) (h : P (.rt d)) (nl : d.isNew = false := by rfl) : DS T X ε (.Return (some e) pos) P :=
  .of (ps_ret he.pe) fun σ H H0 ev => ⟨H0, ev, fun v H' ⟨g, hv⟩ => ⟨d, (ev.ex.trans cut_sub.ex).trans g, hv, fun q => absurd (nl.symm.trans q) (by decide), h⟩⟩
theorem d_retN (he : DN T X ε e ds) (h : P (.rt (.lst ds))) : DS T X ε (.Return (some e) pos) P :=
  .of (ps_ret he.pe) fun σ H H0 ev => ⟨H0, ev, fun v H' ⟨H1, p, xs, e1, g, hp, e2, a⟩ => by
    subst e1 e2
    have g1 := (ev.ex.trans cut_sub.ex).trans g
    exact ⟨.lst ds, g1.trans (Ex.new hp), .lst upd_same ((a.ex cut_sub.ex).ex (Ex.new hp)), fun _ => ⟨p, rfl, g1.back hp⟩, h⟩⟩
/-- return of a list of one's own -/
theorem d_retO (i : Nat) {x : Str} {ps : Pos} (hε : ε[i]? = some (.ol ds)) (h : P (.rt (.lst ds))) (hN : X.N[i]? = some x := by rfl) (hv : Vis X.env.scope x := by first | exact Or.inl rfl | exact Or.inr (Or.inl rfl) | exact Or.inr (Or.inr rfl))
    (hd1 : (x == ("__debug__" : Str)) = false := by decide) (hcd : (x == ("__classdict__" : Str)) = false := by decide) : DS T X ε (.Return (some (.Name x ps)) pos) P :=
  .of (ps_ret (pe_var hN hv hd1 hcd)) fun σ H H0 ev => by
    obtain ⟨y, g1, a, xs, e1, e2, e3⟩ := pget ev.sl hε
    subst e1
    refine ⟨_, g1, .lst ds, ev.ex.trans cut_sub.ex, .lst e2 (e3.ex cut_sub.ex), fun _ => ⟨a, rfl, ?_⟩, h⟩
    exact ev.ex.back (cut_in (mem_owns g1 hε rfl))
theorem d_retD {kvs : List (NK × Dt)} (he : DD T X ε e kvs) (h : P (.rt (.dic kvs))) : DS T X ε (.Return (some e) pos) P :=
  .of (ps_ret he.pe) fun σ H H0 ev => ⟨H0, ev, fun v H' ⟨H1, p, es, e1, g, hp, e2, a, n, l, sm⟩ => by
    subst e1 e2
    have g1 := (ev.ex.trans cut_sub.ex).trans g
    exact ⟨.dic kvs, g1.trans (Ex.new hp), .dic upd_same ((a.ex cut_sub.ex).ex (Ex.new hp)) n l sm, fun _ => ⟨p, rfl, g1.back hp⟩, h⟩⟩
theorem d_retOD (i : Nat) {x : Str} {ps : Pos} {kvs : List (NK × Dt)} (hε : ε[i]? = some (.od kvs)) (h : P (.rt (.dic kvs))) (hN : X.N[i]? = some x := by rfl) (hv : Vis X.env.scope x := by first | exact Or.inl rfl | exact Or.inr (Or.inl rfl) | exact Or.inr (Or.inr rfl))
    (hd1 : (x == ("__debug__" : Str)) = false := by decide) (hcd : (x == ("__classdict__" : Str)) = false := by decide) : DS T X ε (.Return (some (.Name x ps)) pos) P :=
  .of (ps_ret (pe_var hN hv hd1 hcd)) fun σ H H0 ev => by
    obtain ⟨y, g1, a, es, e1, e2, e3, n, l, sm⟩ := pget ev.sl hε
    subst e1
    refine ⟨_, g1, .dic kvs, ev.ex.trans cut_sub.ex, .dic e2 (e3.ex cut_sub.ex) n l sm, fun _ => ⟨a, rfl, ?_⟩, h⟩
    exact ev.ex.back (cut_in (mem_owns g1 hε rfl))
theorem d_retE (h : P (.rt .non)) : DS T X ε (.Return none pos) P := .of ps_retN fun σ H H0 ev => ⟨.non, ev.ex.trans cut_sub.ex, .non, fun q => (by cases q), h⟩
theorem d_if {bc : Bool} {as bs : List Stmt} (hc : DT T X ε c bc) (h1 : bc = true → DSs T X ε as P) (h2 : bc = false → DSs T X ε bs P) : DS T X ε (.If c as bs pos) P := by
  cases bc with
  | true => exact .of (ps_if hc.pt (h1 rfl).pss (u := tNever) ⟨fun _ _ _ _ _ _ q => q.elim⟩) fun σ H H0 ev => ⟨H0, ev, fun H' g => iteT ⟨H0, ev.grow g, Imp.refl⟩⟩
  | false => exact .of (ps_if hc.pt (t := tNever) ⟨fun _ _ _ _ _ _ q => q.elim⟩ (h2 rfl).pss) fun σ H H0 ev => ⟨H0, ev, fun H' g => iteF ⟨H0, ev.grow g, Imp.refl⟩⟩
theorem d_break (h : P (.bk ε)) : DS T X ε (.Break pos) P := .of ps_break fun σ H H0 ev => ⟨ε, ev, h⟩
theorem d_cont (h : P (.ct ε)) : DS T X ε (.Continue pos) P := .of ps_continue fun σ H H0 ev => ⟨ε, ev, h⟩
theorem d_pass (h : P (.nx ε)) : DS T X ε (.Pass pos) P := .of ps_pass fun σ H H0 ev => ⟨ε, ev, h⟩

/-! #### a list of one's own grows -/
theorem d_app (i : Nat) {x : Str} {p1 p2 : Pos} (hε : ε[i]? = some (.ol ds)) (he : DE T X ε e d) (hi : d.imm = true) (hl : ds.length ≤ 100000) (h : P (.nx (ε.set i (.ol (ds ++ [d]))))) (hN : X.N[i]? = some x := by rfl)
    (hv : Vis X.env.scope x := by first | exact Or.inl rfl | exact Or.inr (Or.inl rfl) | exact Or.inr (Or.inr rfl)) (hd1 : (x == ("__debug__" : Str)) = false := by decide) (hcd : (x == ("__classdict__" : Str)) = false := by decide)
    (hline : (p2.endLine == pos.line) = true := by rfl) (hbase : attributeBase (.Name x p1) ("append" : Str) X.env (eval (.Name x p1) X.env) = eval (.Name x p1) X.env := by rfl)
    (hs1 : starEach [e] X.env = (false, eval e X.env) :: starEach [] X.env := by rfl)
    (hfew : ((backTo pos (starEach [e] X.env)).all (fun x => !x.1) && (backToKw pos (keywordEach [] X.env)).all (fun x => x.1.isSome) && decide (([e] : List Expr).length + ([] : List Keyword).length + (if ([] : List Keyword).isEmpty then 0 else 1) < 30)) = true := by rfl)
    {pos' : Pos} (hs : swapsWith (.Call (.Attribute (.Name x p1) "append" p2) [e] [] pos) none pos'.line X.env = pure false := by rfl) : DS T X ε (.Expr (.Call (.Attribute (.Name x p1) "append" p2) [e] [] pos) pos') P :=
  .of (ps_expr (pe_bm PySem.F.plainAttrs_list PySem.F.slot_list_append PySem.F.type_list_append mt_append (pe_var hN hv hd1 hcd) (pa_cons he.pe pa_nil hs1) hbase hfew hline hs1 rfl) hs) fun σ H H0 ev => by
    obtain ⟨y, g1, a, xs, e1, e2, e3⟩ := pget ev.sl hε
    subst e1
    refine ⟨_, g1, .inl ⟨rfl, _, SqL.of e2⟩, H0, ev, fun v H' ⟨g, hv⟩ => ⟨a, xs, v, rfl, rfl, g.keep _ _ e2 (fun _ z => by cases z), by rw [e3.length, sizeLine_eq]; omega, ?_⟩⟩
    have ev' := ev.grow g
    refine ⟨_, ev'.updO (o := .lst (xs ++ [v])) (s := .ol (ds ++ [d])) hε rfl g1 rfl ⟨a, _, rfl, upd_same, ?_⟩, h⟩
    exact (e3.ex (cut_ex ev.own g)).app (.one (hv.imm_cut ev'.own hi))
theorem d_ext (i : Nat) {x : Str} {p1 p2 : Pos} (hε : ε[i]? = some (.ol ds)) {es : List Dt} (he : DE T X ε e (.lst es)) (hi : immAll es = true) (hl : ds.length + es.length ≤ 100000) (h : P (.nx (ε.set i (.ol (ds ++ es))))) (hN : X.N[i]? = some x := by rfl)
    (hv : Vis X.env.scope x := by first | exact Or.inl rfl | exact Or.inr (Or.inl rfl) | exact Or.inr (Or.inr rfl)) (hd1 : (x == ("__debug__" : Str)) = false := by decide) (hcd : (x == ("__classdict__" : Str)) = false := by decide)
    (hline : (p2.endLine == pos.line) = true := by rfl) (hbase : attributeBase (.Name x p1) ("extend" : Str) X.env (eval (.Name x p1) X.env) = eval (.Name x p1) X.env := by rfl)
    (hs1 : starEach [e] X.env = (false, eval e X.env) :: starEach [] X.env := by rfl)
    (hfew : ((backTo pos (starEach [e] X.env)).all (fun x => !x.1) && (backToKw pos (keywordEach [] X.env)).all (fun x => x.1.isSome) && decide (([e] : List Expr).length + ([] : List Keyword).length + (if ([] : List Keyword).isEmpty then 0 else 1) < 30)) = true := by rfl)
    {pos' : Pos} (hs : swapsWith (.Call (.Attribute (.Name x p1) "extend" p2) [e] [] pos) none pos'.line X.env = pure false := by rfl) : DS T X ε (.Expr (.Call (.Attribute (.Name x p1) "extend" p2) [e] [] pos) pos') P :=
  .of (ps_expr (pe_bm PySem.F.plainAttrs_list PySem.F.slot_list_extend PySem.F.type_list_extend mt_extend (pe_var hN hv hd1 hcd) (pa_cons he.pe pa_nil hs1) hbase hfew hline hs1 rfl) hs) fun σ H H0 ev => by
    obtain ⟨y, g1, a, xs, e1, e2, e3⟩ := pget ev.sl hε
    subst e1
    refine ⟨_, g1, .inl ⟨rfl, _, SqL.of e2⟩, H0, ev, fun v H' ⟨g, hv⟩ => ?_⟩
    cases hv with
    | @lst b zs _ h1 a1 =>
      refine ⟨a, b, xs, zs, rfl, rfl, g.keep _ _ e2 (fun _ z => by cases z), h1, by rw [e3.length, a1.length, sizeLine_eq]; omega, ?_⟩
      have ev' := ev.grow g
      refine ⟨_, ev'.updO (o := .lst (xs ++ zs)) (s := .ol (ds ++ es)) hε rfl g1 rfl ⟨a, _, rfl, upd_same, ?_⟩, h⟩
      exact (e3.ex (cut_ex ev.own g)).app (a1.imm_cut ev'.own hi)
end
end Cp
end
section
set_option maxHeartbeats 4000000
/-! Loops, a def's body, builtins. -/
namespace Cp
open PySem PySem.Spec PyProof.Rows L2 LamX

section
variable {T : List (Addr × Str)} {X : Cx} {ε : List Sl} {e a b c : Expr} {es : List Expr} {d d1 d2 : Dt} {ds : List Dt} {pos : Pos} {st : Stmt} {sts rest body : List Stmt} {P P1 : Oc → Prop}
theorem EnvOk.rebase {P : Program} {w : World} {K : PySem.W.Frag} {H0 H : Hp} {σ : L2.St} (e : EnvOk P w K T H0 H σ ε) : EnvOk P w K T (cut (owns σ ε) H) H σ ε := ⟨Ex.refl _, e.tb, e.nd, e.sl⟩
theorem EnvOk.base {P : Program} {w : World} {K : PySem.W.Frag} {H0 B H : Hp} {σ : L2.St} (e : EnvOk P w K T B H σ ε) (g : Ex H0 B) : EnvOk P w K T H0 H σ ε := ⟨g.trans e.ex, e.tb, e.nd, e.sl⟩
theorem Frs.base {H0 B : Hp} {v : V} (g : Ex H0 B) (f : Frs B v d) : Frs H0 v d := fun q => let ⟨p, e1, e2⟩ := f q; ⟨p, e1, g.back e2⟩
/-- ends above a later heap -/
theorem ends_base {H0 B : Hp} (g : Ex H0 B) : Imp T X B P (endsOf T X H0 P) :=
  ⟨fun σ' H' ⟨ε', a, b⟩ => ⟨ε', a.base g, b⟩, fun v H' ⟨d, a, b, c, e⟩ => ⟨d, g.trans a, b, c.base g, e⟩, fun σ' H' ⟨ε', a, b⟩ => ⟨ε', a.base g, b⟩, fun σ' H' ⟨ε', a, b⟩ => ⟨ε', a.base g, b⟩⟩
def tAny (T : List (Addr × Str)) (X : Cx) (body : List Stmt) : TS := fun D σ H => ∃ ε H0 P, DSs T X ε body P ∧ EnvOk X.prog X.w X.K T H0 H σ ε ∧ Imp T X H0 P D
theorem pss_any : PSs X body (tAny T X body) := ⟨fun pins s σ H D I ⟨ε, H0, P, h, ev, k⟩ => h.pss.run pins s σ H D I ⟨H0, ev, k⟩⟩
def tAnyT (T : List (Addr × Str)) (X : Cx) (c : Expr) : TT := fun σ H Q => ∃ ε b H0, DT T X ε c b ∧ EnvOk X.prog X.w X.K T H0 H σ ε ∧ ∀ H', Ex H H' → Q b H'
theorem pt_any : PT X c (tAnyT T X c) := ⟨fun pins s σ H Q I ⟨ε, b, H0, h, ev, k⟩ => h.pt.run pins s σ H Q I ⟨H0, ev, k⟩⟩
/-- a loop's turn: to the next, or out -/
def loopP (Jn : List Sl → Prop) (P : Oc → Prop) : Oc → Prop
  | .nx ε' => Jn ε'
  | .ct ε' => Jn ε'
  | .bk ε' => P (.nx ε')
  | .rt d => P (.rt d)
/-- what is walked: n items; wi the iterator's reading -/
structure DI (T : List (Addr × Str)) (X : Cx) (ε : List Sl) (tg iter : Expr) (n : Nat) (items : Nat → Dt) (wi : TI) : Prop where
  pi : PI X tg iter wi
  rd : ∀ (σ : L2.St) (H H0 : Hp), EnvOk X.prog X.w X.K T H0 H σ ε → ∀ R : It → Hp → Prop, (∀ J H1 G Y, Ex H H1 → Walk J n G Y → (∀ A H', Ex (cut (owns σ ε) H1) (cut A H') → G H') →
    (∀ A i H' x H'', i < n → Ex (cut (owns σ ε) H1) (cut A H') → (∀ a ∈ A, OwnAt H' a) → Y i H' x H'' → Ex H' H'' ∧ Da X.prog X.w X.K (cut A H'') x (items i)) → R J H1) → wi σ H R
theorem d_for {tg iter : Expr} {n : Nat} {items : Nat → Dt} {wi : TI} {js : List Nat} {f : Nat → List Sl → List Sl} (hi : DI T X ε tg iter n items wi) (ht : ∀ i, i < n → DTg T X tg (items i) js (f i)) (JJ : Nat → List Sl → Prop) (h0 : JJ 0 ε)
    (hb : ∀ i ε', i < n → JJ i ε' → DSs T X (f i ε') body (loopP (JJ (i + 1)) P)) (he : ∀ ε', JJ n ε' → P (.nx ε')) (hp : PassesOwn (model X.prog X.w) X.A X.env X.xe := by exact PassesOwn.never) (hc : X.calm = true := by rfl)
    (hs : ∀ x, foldedSetIterable iter X.env x = pure x := by intro _; rfl) : DS T X ε (.For tg iter body [] pos) P := by
  refine .of (ps_for hp hc hi.pi (pg_tg (T := T)) (pss_any (T := T)) hs) fun σ H H0 ev => hi.rd σ H H0 ev _ fun J H1 G Y g w hG hY => ?_
  have ev1 := ev.grow g
  have b0 : Ex H0 (cut (owns σ ε) H1) := ev1.ex
  refine for_it w (fun i σ' H' => ∃ ε', EnvOk X.prog X.w X.K T (cut (owns σ ε) H1) H' σ' ε' ∧ JJ i ε') ⟨ε, ev1.rebase, h0⟩ (fun i σ' H' _ ⟨ε', ev', _⟩ => hG _ _ ev'.ex) ?_ ?_
  · rintro i x σ' H' H'' hi' ⟨ε', ev', j⟩ y
    obtain ⟨g2, hx⟩ := hY _ i H' x H'' hi' ev'.ex ev'.own y
    refine ⟨items i, js, f i, ε', _, ht i hi', ev'.grow g2, hx, fun σ2 H2 ev2 _ _ => ⟨f i ε', _, _, hb i ε' hi' j, ev2, ?_, ?_, ?_, ?_⟩⟩
    · rintro σ3 H3 ⟨ε3, ev3, q⟩; exact ⟨ε3, ev3, q⟩
    · rintro v H3 ⟨d, q1, q2, q3, q4⟩; exact ⟨d, b0.trans q1, q2, q3.base b0, q4⟩
    · rintro σ3 H3 ⟨ε3, ev3, q⟩; exact ⟨ε3, ev3.base b0, q⟩
    · rintro σ3 H3 ⟨ε3, ev3, q⟩; exact ⟨ε3, ev3, q⟩
  · rintro σ' H' ⟨ε', ev', j⟩
    exact ⟨ε', ev'.base b0, he ε' j⟩
theorem getD_some {ds : List Dt} {i : Nat} (h : i < ds.length) : ds[i]? = some (ds.getD i .non) := by
  rw [List.getD_eq_getElem?_getD, List.getElem?_eq_getElem h]; rfl
theorem da_ref {K : PySem.W.Frag} {P : Program} {w : World} {H : Hp} {A : List Addr} {p : Addr} {o : HO} (own : ∀ a ∈ A, OwnAt H a) (hp : H p = none) : cut A (upd H p o) p = some o := by
  rw [cut_out (fun z => (own p z).there hp), upd_same]
theorem cut_new {A : List Addr} {H : Hp} {p : Addr} {o : HO} (hp : H p = none) : Sub (cut A H) (cut A (upd H p o)) := fun b u q => by
  by_cases hb : b ∈ A
  · rw [cut_in hb] at q; cases q
  · rw [cut_out hb] at q ⊢
    rw [upd_ne (ne_of_none q hp)]; exact q
theorem di_list {tg iter : Expr} (h : DB T X ε iter (.lst ds)) : DI T X ε tg iter ds.length (fun i => ds.getD i .non) (iList X.K (tG T X ε (gB X (.lst ds)))) := by
  refine ⟨pi_list h.pe, fun σ H H0 ev R k => ⟨H0, ev, fun v H1 ⟨g, hv⟩ => ?_⟩⟩
  cases hv with
  | @lst p xs _ h1 a1 =>
    refine ⟨p, rfl, ⟨xs, SqL.of (cut_sub _ _ h1)⟩, k _ H1 (fun H => SqL X.K H p xs) (YAt xs) g ?_ (fun A H' g2 => SqL.of (cut_sub _ _ (g2.keep _ _ h1 (fun _ z => by cases z)))) ?_⟩
    · have := walk_list (K := X.K) (a := p) (xs := xs)
      rw [a1.length] at this
      exact this
    · rintro A i H' x H'' hi g2 own ⟨e1, e2⟩
      subst e1
      refine ⟨Ex.refl _, ?_⟩
      obtain ⟨v, q1, q2⟩ := a1.get (getD_some hi)
      rw [e2] at q1; cases q1
      exact q2.ex g2
theorem di_tup {tg iter : Expr} (h : DB T X ε iter (.tup ds)) : DI T X ε tg iter ds.length (fun i => ds.getD i .non) (iTup X.K (tG T X ε (gB X (.tup ds)))) := by
  refine ⟨pi_tup h.pe, fun σ H H0 ev R k => ⟨H0, ev, fun v H1 ⟨g, hv⟩ => ?_⟩⟩
  cases hv with
  | @tup p xs _ h1 a1 =>
    refine ⟨p, rfl, ⟨xs, SqT.of (cut_sub _ _ h1)⟩, k _ H1 (fun H => SqT X.K H p xs) (YAt xs) g ?_ (fun A H' g2 => SqT.of (cut_sub _ _ (g2.keep _ _ h1 (fun _ z => by cases z)))) ?_⟩
    · have := walk_tup (K := X.K) (a := p) (xs := xs)
      rw [a1.length] at this
      exact this
    · rintro A i H' x H'' hi g2 own ⟨e1, e2⟩
      subst e1
      refine ⟨Ex.refl _, ?_⟩
      obtain ⟨v, q1, q2⟩ := a1.get (getD_some hi)
      rw [e2] at q1; cases q1
      exact q2.ex g2
theorem di_range1 {tg : Expr} {n : Int} {p : Pos} (hm : X.mg "range" = none) (ha : DE T X ε a (.int n)) (hn : n < 1000000) (hg : Gl X "range" := by rfl) (hs : starEach [a] X.env = [(false, eval a X.env)] := by rfl) (hn0 : -1000000 < n := by omega) :
    DI T X ε tg (.Call (.Name "range" p) [a] [] pos) n.toNat (fun i => .int (i : Nat)) (iRng1 (tCons (tG T X ε (gE X (.int n))) tNil)) := by
  refine ⟨pi_range1 hg hm (pa_cons ha.pe pa_nil hs) hs, fun σ H H0 ev R k => ⟨H0, ev, fun v H1 ⟨g, hv⟩ => ?_⟩⟩
  cases hv
  refine ⟨n, rfl, by omega, by omega, k _ H1 (fun _ => True) _ g (walk_range (lo := 0) (n := n.toNat)) (fun _ _ _ => trivial) ?_⟩
  rintro A i H' x H'' hi g2 own ⟨e1, e2⟩
  subst e1 e2
  refine ⟨Ex.refl _, ?_⟩
  show Da X.prog X.w X.K _ (V.int (0 + (i : Int))) _
  rw [Int.zero_add]
  exact .int _
theorem di_range2 {tg : Expr} {lo n : Int} {p : Pos} (hm : X.mg "range" = none) (ha : DE T X ε a (.int lo)) (hb : DE T X ε b (.int n)) (hn : n < 1000000 ∧ -1000000 < n ∧ lo < 1000000 ∧ -1000000 < lo) (hg : Gl X "range" := by rfl)
    (hs : starEach [a, b] X.env = [(false, eval a X.env), (false, eval b X.env)] := by rfl) (hs2 : starEach [b] X.env = [(false, eval b X.env)] := by rfl) :
    DI T X ε tg (.Call (.Name "range" p) [a, b] [] pos) (n - lo).toNat (fun i => .int (lo + (i : Nat))) (iRng2 (tCons (tG T X ε (gE X (.int lo))) (tCons (tG T X ε (gE X (.int n))) tNil))) := by
  refine ⟨pi_range2 hg hm (pa_cons ha.pe (pa_cons hb.pe pa_nil hs2) (by rw [hs, hs2])) hs hs2, fun σ H H0 ev R k => ⟨H0, ev, fun v H1 ⟨g, hv⟩ => ⟨H0, ev.grow g, fun v2 H2 ⟨g2, hv2⟩ => ?_⟩⟩⟩
  cases hv
  cases hv2
  refine ⟨lo, n, rfl, ⟨by omega, by omega, by omega, by omega⟩, k _ H2 (fun _ => True) _ (g.trans g2) (walk_range (lo := lo) (n := (n - lo).toNat)) (fun _ _ _ => trivial) ?_⟩
  rintro A i H' x H'' hi g2 own ⟨e1, e2⟩
  subst e1 e2
  exact ⟨Ex.refl _, .int _⟩
theorem di_str {tg iter : Expr} {z : Str} (h : DE T X ε iter (.str z)) : DI T X ε tg iter z.cps.size (fun i => .str ⟨#[z.cps.getD i 0]⟩) (iStr (tG T X ε (gE X (.str z)))) := by
  refine ⟨pi_str h.pe, fun σ H H0 ev R k => ⟨H0, ev, fun v H1 ⟨g, hv⟩ => ?_⟩⟩
  cases hv
  refine ⟨z, rfl, k _ H1 (fun _ => True) _ g (walk_str (z := z)) (fun _ _ _ => trivial) ?_⟩
  rintro A i H' x H'' hi g2 own ⟨e1, c, e2, e3⟩
  subst e1 e3
  refine ⟨Ex.refl _, ?_⟩
  have : z.cps.getD i 0 = c := by rw [Array.getD_eq_getD_getElem?, e2]; rfl
  rw [this]
  exact .str _
/-- enumerate(list): a target of two -/
theorem di_enum {elts : List Expr} {kk : Nat} {tpos p : Pos} (hm : X.mg "enumerate" = none) (h : DB T X ε e (.lst ds)) (hg : Gl X "enumerate" := by rfl) (hs : starEach [e] X.env = [(false, eval e X.env)] := by rfl) :
    DI T X ε (.Tuple elts kk tpos) (.Call (.Name "enumerate" p) [e] [] pos) ds.length (fun i => .tup [.int (i : Nat), ds.getD i .non]) (iEnum X.K (tCons (tG T X ε (gB X (.lst ds))) tNil)) := by
  refine ⟨pi_enum hg hm (pa_cons h.pe pa_nil hs) hs, fun σ H H0 ev R k => ⟨H0, ev, fun v H1 ⟨g, hv⟩ => ?_⟩⟩
  cases hv with
  | @lst p xs _ h1 a1 =>
    refine ⟨p, xs, rfl, SqL.of (cut_sub _ _ h1), k _ H1 (fun H => SqL X.K H p xs) (YPair (fun i => some (.int (i : Nat))) (fun i => xs[i]?)) g ?_ (fun A H' g2 => SqL.of (cut_sub _ _ (g2.keep _ _ h1 (fun _ z => by cases z)))) ?_⟩
    · have := walk_enum (K := X.K) (a := p) (xs := xs)
      rw [a1.length] at this
      exact this
    · rintro A i H' x H'' hi g2 own ⟨T', y1, y2, e1, hT, e2, e3, e4⟩
      subst e1 e2
      cases e3
      have e4 : xs[i]? = some y2 := e4
      obtain ⟨v, q1, q2⟩ := a1.get (getD_some hi)
      rw [e4] at q1; cases q1
      have c2 := (cut_new (A := A) (o := .tup [.int (i : Nat), y2]) hT).ex
      exact ⟨Ex.new hT, .tup (da_ref (K := X.K) (P := X.prog) (w := X.w) own hT) (.cons (.int _) (.cons ((q2.ex g2).ex c2) .nil))⟩

/-! ### targets: tuples -/
structure DTgs (T : List (Addr × Str)) (X : Cx) (tgs : List Expr) (ds : List Dt) (js : List Nat) (f : List Sl → List Sl) : Prop where
  run : ∀ (pins : List (Addr × Obj)) (s : Shared) (σ : L2.St) (H H0 : Hp) (ε : List Sl) (vs : List V) (us : List Value), Inv X pins σ H s → Vals vs us → EnvOk X.prog X.w X.K T H0 H σ ε → DaAll X.prog X.w X.K (cut (owns σ ε) H) vs ds →
    wpAny (model X.prog X.w) X.A (assignInOrder ((assignEach tgs X.env).map (·.2)) us) (fun _ s' => ∃ σ' H', Inv X pins σ' H' s' ∧ EnvOk X.prog X.w X.K T H0 H' σ' (f ε) ∧ SameBut js σ σ' ∧ Ex H H') X.xe s
theorem SameBut.refl (σ : L2.St) : SameBut [] σ σ := ⟨rfl, fun _ _ => rfl⟩
theorem SameBut.trans {js ks : List Nat} {σ σ1 σ2 : L2.St} (a : SameBut js σ σ1) (b : SameBut ks σ1 σ2) : SameBut (js ++ ks) σ σ2 :=
  ⟨b.1.trans a.1, fun i hi => (b.2 i (fun z => hi (List.mem_append_right _ z))).trans (a.2 i (fun z => hi (List.mem_append_left _ z)))⟩
theorem tgs_nil : DTgs T X [] [] [] (fun ε => ε) := ⟨fun pins s σ H H0 ε vs us I r ev h => by
  cases h
  cases r
  exact assignInOrder_nil ⟨σ, H, I, ev, SameBut.refl σ, Ex.refl H⟩⟩
/-- what stays strong while slots change to data -/
theorem tgs_cons {tg : Expr} {tgs : List Expr} {js ks : List Nat} {f1 f2 : List Sl → List Sl} (h1 : DTg T X tg d js f1) (h2 : DTgs T X tgs ds ks f2) (i : (immAll ds) = true)
    (hs : (assignEach (tg :: tgs) X.env).map (·.2) = assign tg X.env :: (assignEach tgs X.env).map (·.2) := by rfl) : DTgs T X (tg :: tgs) (d :: ds) (js ++ ks) (fun ε => f2 (f1 ε)) := ⟨fun pins s σ H H0 ε vs us I r ev h => by
  cases h with
  | cons a1 a2 =>
    cases r with
    | cons r rr =>
      rw [hs]
      refine assignInOrder_cons (thn (h1.run pins s σ H _ ε _ _ I r ev.rebase a1) fun _ s1 ⟨σ1, H1, I1, ev1, sb1, gg1⟩ => ?_)
      have a3 : DaAll X.prog X.w X.K (cut (owns σ1 (f1 ε)) H1) _ _ := a2.ex ev1.ex
      exact thn (h2.run pins s1 σ1 H1 H0 (f1 ε) _ _ I1 rr (ev1.base ev.ex) a3) fun _ s2 ⟨σ2, H2, I2, ev2, sb2, gg2⟩ => ⟨σ2, H2, I2, ev2, sb1.trans sb2, gg1.trans gg2⟩⟩
theorem tg_tup {tgs : List Expr} {kk : Nat} {js : List Nat} {f : List Sl → List Sl} (h : DTgs T X tgs ds js f) (hc : X.calm = true := by rfl) (hn : (assignEach tgs X.env).length = ds.length := by rfl) (hst : (assignEach tgs X.env).findIdx? (·.1) = none := by rfl) :
    DTg T X (.Tuple tgs kk pos) (.tup ds) js f := ⟨fun pins s σ H H0 ε v u I r ev hd => by
  cases hd with
  | @tup a xs _ h1 a1 =>
    cases r
    obtain ⟨its, rv, ht, hz⟩ := I.tuple (SqT.of (cut_sub _ _ h1))
    refine assign_Tuple_tuple (I.ok.hd hc) ht (by simp [hn, ← a1.length, rv.length]) hst fun h' hx => ?_
    have I1 : Inv X pins σ H { s with heap := h' } := I.kept (t' := s.toks) fun b o e => hx b o (Nat.ne_of_lt (Heap.lt_size e)) e
    exact h.run pins _ σ H H0 ε xs _ I1 (by simpa using rv) ev a1⟩

/-! ### while -/
theorem d_while {c : Expr} (JJ : Nat → List Sl → Prop) (m0 : Nat) (h0 : JJ m0 ε)
    (hb : ∀ m ε', JJ m ε' → ∃ b, DT T X ε' c b ∧ (b = true → DSs T X ε' body (loopP (fun ε2 => ∃ m', m' < m ∧ JJ m' ε2) P)) ∧ (b = false → P (.nx ε'))) (hp : PassesOwn (model X.prog X.w) X.A X.env X.xe := by exact PassesOwn.never) : DS T X ε (.While c body [] pos) P := by
  refine .of (ps_while hp (pt_any (T := T)) (pss_any (T := T))) fun σ H H0 ev => ⟨fun m σ' H' => ∃ ε', EnvOk X.prog X.w X.K T H0 H' σ' ε' ∧ JJ m ε', ⟨m0, ε, ev, h0⟩, ?_⟩
  rintro m σ' H' ⟨ε', ev', j⟩
  obtain ⟨b, h1, h2, h3⟩ := hb m ε' j
  refine ⟨ε', b, H0, h1, ev', fun H2 g => ?_⟩
  cases b with
  | true =>
    refine iteT ⟨fun σ3 H3 => ∃ ε3, EnvOk X.prog X.w X.K T H0 H3 σ3 ε3 ∧ ∃ m', m' < m ∧ JJ m' ε3, fun σ3 H3 ⟨ε3, e3, m', q1, q2⟩ => ⟨m', q1, ε3, e3, q2⟩, ε', H0, _, h2 rfl, ev'.grow g, ?_, ?_, ?_, ?_⟩
    · rintro σ3 H3 ⟨ε3, ev3, q⟩; exact ⟨ε3, ev3, q⟩
    · rintro v H3 ⟨d, q1, q2, q3, q4⟩; exact ⟨d, q1, q2, q3, q4⟩
    · rintro σ3 H3 ⟨ε3, ev3, q⟩; exact ⟨ε3, ev3, q⟩
    · rintro σ3 H3 ⟨ε3, ev3, q⟩; exact ⟨ε3, ev3, q⟩
  | false => exact iteF ⟨ε', ev'.grow g, h3 rfl⟩
end

/-! ### a def's body -/
abbrev FnP (K : PySem.W.Frag) (x qual : Str) (st : Stmt) (f : Addr) (fd : FuncData) : Prop := FunD K x qual (defArgs st) (defBody st) (defScope st) [] [] f fd
abbrev bodyX (P : Program) (w : World) (K : PySem.W.Frag) (mg : Str → Option Value) (base : Heap) (N : List Str) (qual : Str) (st : Stmt) (f : Addr) (cdv : Value) (A : Around) (outer : List Env) (s : Shared) (H : Hp) (E : XK) : Cx :=
  (cxOf CX0 P w K mg base N qual (defScope st) f cdv A outer s H E).nox
def endP (d : Dt) : Oc → Prop
  | .rt d' => d' = d
  | .nx _ => d = .non
  | _ => False
theorem paired_start {P : Program} {w : World} {K : PySem.W.Frag} {H : Hp} {vs : List V} {ds : List Dt} (h : DaAll P w K H vs ds) : ∀ n, Paired (SlOk P w K H H) (vs.map some ++ List.replicate n none) (ds.map Sl.val ++ List.replicate n Sl.no) := by
  have tail : ∀ n, Paired (SlOk P w K H H) (List.replicate n none) (List.replicate n Sl.no) := by
    intro n
    induction n with
    | zero => exact .nil
    | succ n ih => rw [List.replicate_succ, List.replicate_succ]; exact .cons trivial ih
  have all : ∀ {vs : List V} {ds : List Dt}, DaAll P w K H vs ds → ∀ n, Paired (SlOk P w K H H) (vs.map some ++ List.replicate n none) (ds.map Sl.val ++ List.replicate n Sl.no) := by
    intro vs
    induction vs with
    | nil => intro ds h n; cases h; exact tail n
    | cons v vs ih => intro ds h n; cases h with | cons a b => exact .cons ⟨v, rfl, a⟩ (ih b n)
  exact all h
theorem noOwn_start (ds : List Dt) (n : Nat) : noOwn (ds.map Sl.val ++ List.replicate n Sl.no) = true := by
  unfold noOwn
  rw [List.all_eq_true]
  intro s hs
  rcases List.mem_append.mp hs with h | h
  · obtain ⟨d, _, rfl⟩ := List.mem_map.mp h; rfl
  · rw [List.eq_of_mem_replicate h]; rfl
section
variable {T : List (Addr × Str)} {P : Program} {w : World} {K : PySem.W.Frag} {mg : Str → Option Value} {base : Heap} {x qual : Str} {st : Stmt} {f : Addr} {fd : FuncData} {N ps : List Str} {k : Nat} {R : List Dt → Dt → Prop}
theorem fn_body (F : FnP K x qual st f fd) (S : FnScope N ps (defScope st)) (k : Nat) (R : List Dt → Dt → Prop)
    (hb : ∀ (cdv : Value) (A : Around) (outer : List Env) (s : Shared) (H : Hp) (E : XK) (ds : List Dt) (d : Dt), Room k (A.deeper (envOfC qual (defScope st) s.heap.objs.size f cdv)) → ds.length = ps.length → R ds d →
      DSs T (bodyX P w K mg base N qual st f cdv A outer s H E) (ds.map .val ++ List.replicate (N.length - ps.length) .no) (defBody st) (endP d)) : FnOk P w K mg base CX0 (k + 1) f fd ps (spD T P w K ps.length R) := by
  refine F.ok S (fun vs H Q E ⟨_, ds, d, h, hl, _⟩ => h.length.trans hl) fun cdv A outer s H vs Q E hr ⟨t, ds, d, h, hl, hR, k⟩ => ⟨_, (hb cdv A outer s H E ds d hr hl hR).pss.nox, H, ⟨?_, ?_, ?_, ?_⟩, ?_, ?_, ?_, ?_⟩
  · rw [owns_no (noOwn_start _ _), cut_nil]; exact Ex.refl H
  · rw [owns_no (noOwn_start _ _), cut_nil]; exact t
  · rw [owns_no (noOwn_start _ _)]; exact List.nodup_nil
  · rw [owns_no (noOwn_start _ _), cut_nil]
    unfold L2.start
    rw [h.length, hl]
    exact paired_start h _
  · rintro σ' H' ⟨ε', ev', q⟩
    have q : d = .non := q
    subst q
    exact k .non H' (ev'.ex.trans cut_sub.ex) .non (fun q => by cases q)
  · rintro v H' ⟨d', q1, q2, q3, q4⟩
    have q4 : d' = d := q4
    subst q4
    exact k v H' q1 q2 q3
  · rintro σ' H' ⟨ε', _, q⟩; exact q
  · rintro σ' H' ⟨ε', _, q⟩; exact q
theorem fnD_of (F : FnP K x qual st f fd) (ok : FnOk P w K mg base CX0 k f fd ps (spD T P w K ps.length R)) (hm : mg x = some (.ref f))
    (hb : ∀ (kV doc pm : Value) (an : Option Addr) (cdv ct : Value) (us : List Value), us.length = ps.length → bindArgs (PySem.W.fnOf x qual (defArgs st) (defBody st) (defScope st) .none kV doc pm an cdv ct) ⟨us, []⟩ = pure (ps.zip us)) : FnD T P w K mg base x k ps R :=
  ⟨f, fd, ok, hm, F.kp, F.bindsN hb⟩
end
end Cp
end
section
set_option maxHeartbeats 4000000
/-! Builtins, slices. -/
namespace Cp
open PySem PySem.Spec PyProof.Rows L2 LamX
section
variable {T : List (Addr × Str)} {X : Cx} {ε : List Sl} {e a b c : Expr} {es : List Expr} {d d1 d2 : Dt} {ds : List Dt} {pos p : Pos}
theorem arg1 {σ : L2.St} {H H0 : Hp} (ev : EnvOk X.prog X.w X.K T H0 H σ ε) {R : List V → Hp → Prop} (h : ∀ x H1, Ex H H1 → Da X.prog X.w X.K H1 x d → R [x] H1) : tCons (tG T X ε (gE X d)) tNil σ H R := ⟨H0, ev, fun x H1 ⟨g, hx⟩ => h x H1 g hx⟩
theorem de_len (hm : X.mg "len" = none) (ha : DE T X ε a d) {n : Nat} (hd : (∃ ds, (d = .lst ds ∨ d = .tup ds) ∧ n = ds.length) ∨ (∃ r ns, d = .scr r ns ∧ n = ns.length)) (hg : Gl X "len" := by rfl)
    (he : starEach [a] X.env = (false, eval a X.env) :: starEach [] X.env := by rfl) (hpl : (backTo pos (starEach [] X.env)).any (·.1) = false := by rfl) : DE T X ε (.Call (.Name "len" p) [a] [] pos) (.int n) :=
  .of (pe_callB call_len_seq hg hm PySem.boot_len (pa_cons ha.pe pa_nil he) (by decide) (by decide) he hpl) fun σ H H0 ev => arg1 ev fun x H1 g hx => by
    rcases hd with ⟨ds, hd | hd, rfl⟩ | ⟨r, ns, rfl, rfl⟩
    · subst hd
      cases hx with
      | @lst q xs _ h1 a1 => exact ⟨q, xs, rfl, .inl (SqL.of h1), g, by rw [a1.length]; exact .int _⟩
    · subst hd
      cases hx with
      | @tup q xs _ h1 a1 => exact ⟨q, xs, rfl, .inr (SqT.of h1), g, by rw [a1.length]; exact .int _⟩
    · cases hx with
      | scr h1 => exact ⟨r, _, rfl, .inl h1, g, by rw [List.length_map]; exact .int _⟩
theorem de_lenL (hm : X.mg "len" = none) (ha : DE T X ε a (.lst ds)) (hg : Gl X "len" := by rfl) (he : starEach [a] X.env = (false, eval a X.env) :: starEach [] X.env := by rfl) (hpl : (backTo pos (starEach [] X.env)).any (·.1) = false := by rfl) : DE T X ε (.Call (.Name "len" p) [a] [] pos) (.int (ds.length : Nat)) :=
  de_len hm ha (.inl ⟨ds, .inl rfl, rfl⟩) hg he hpl
theorem de_lenT (hm : X.mg "len" = none) (ha : DE T X ε a (.tup ds)) (hg : Gl X "len" := by rfl) (he : starEach [a] X.env = (false, eval a X.env) :: starEach [] X.env := by rfl) (hpl : (backTo pos (starEach [] X.env)).any (·.1) = false := by rfl) : DE T X ε (.Call (.Name "len" p) [a] [] pos) (.int (ds.length : Nat)) :=
  de_len hm ha (.inl ⟨ds, .inr rfl, rfl⟩) hg he hpl
theorem de_lenS (hm : X.mg "len" = none) {r : Addr} {ns : List Int} (ha : DE T X ε a (.scr r ns)) (hg : Gl X "len" := by rfl) (he : starEach [a] X.env = (false, eval a X.env) :: starEach [] X.env := by rfl) (hpl : (backTo pos (starEach [] X.env)).any (·.1) = false := by rfl) : DE T X ε (.Call (.Name "len" p) [a] [] pos) (.int (ns.length : Nat)) :=
  de_len hm ha (.inr ⟨r, ns, rfl, rfl⟩) hg he hpl
theorem de_lenX (hm : X.mg "len" = none) {z : Str} (ha : DE T X ε a (.str z)) (hz : z.length ≤ sizeLine) (hg : Gl X "len" := by rfl) (he : starEach [a] X.env = (false, eval a X.env) :: starEach [] X.env := by rfl) (hpl : (backTo pos (starEach [] X.env)).any (·.1) = false := by rfl) : DE T X ε (.Call (.Name "len" p) [a] [] pos) (.int z.length) :=
  .of (pe_callB call_len_str hg hm PySem.boot_len (pa_cons ha.pe pa_nil he) (by decide) (by decide) he hpl) fun σ H H0 ev => arg1 ev fun x H1 g hx => by
    cases hx; exact ⟨z, rfl, hz, g, .int _⟩
theorem de_abs (hm : X.mg "abs" = none) {i : Int} (ha : DE T X ε a (.int i)) (hg : Gl X "abs" := by rfl) (he : starEach [a] X.env = (false, eval a X.env) :: starEach [] X.env := by rfl) (hpl : (backTo pos (starEach [] X.env)).any (·.1) = false := by rfl) : DE T X ε (.Call (.Name "abs" p) [a] [] pos) (.int (if i < 0 then -i else i)) :=
  .of (pe_callB call_abs hg hm (by decide +kernel) (pa_cons ha.pe pa_nil he) (by decide) (by decide) he hpl) fun σ H H0 ev => arg1 ev fun x H1 g hx => by
    cases hx; exact ⟨i, rfl, g, .int _⟩
theorem de_intOf (hm : X.mg "int" = none) {i : Int} (ha : DE T X ε a (.int i)) (hg : Gl X "int" := by rfl) (he : starEach [a] X.env = (false, eval a X.env) :: starEach [] X.env := by rfl) (hpl : (backTo pos (starEach [] X.env)).any (·.1) = false := by rfl) : DE T X ε (.Call (.Name "int" p) [a] [] pos) (.int i) :=
  .of (pe_callTy call_int1 hg hm (by decide +kernel) (pa_cons ha.pe pa_nil he) (by decide) (by decide) he hpl) fun σ H H0 ev => arg1 ev fun x H1 g hx => by
    cases hx; exact .inl ⟨i, rfl, g, .int _⟩
theorem de_min (hm : X.mg "min" = none) {i j : Int} (ha : DE T X ε a (.int i)) (hb : DE T X ε b (.int j)) (hc : X.calm = true := by rfl) (hg : Gl X "min" := by rfl) (he2 : starEach [b] X.env = (false, eval b X.env) :: starEach [] X.env := by rfl)
    (he : starEach [a, b] X.env = (false, eval a X.env) :: starEach [b] X.env := by rfl) (hpl : (backTo pos (starEach [b] X.env)).any (·.1) = false := by rfl) : DE T X ε (.Call (.Name "min" p) [a, b] [] pos) (.int (if j < i then j else i)) :=
  .of (pe_callB (call_min2 hc) hg hm (by decide +kernel) (pa_cons ha.pe (pa_cons hb.pe pa_nil he2) he) (by decide) (by decide) he hpl) fun σ H H0 ev => ⟨H0, ev, fun x H1 ⟨g, hx⟩ => ⟨H0, ev.grow g, fun y H2 ⟨g2, hy⟩ => by
    cases hx; cases hy; exact ⟨i, j, rfl, g.trans g2, .int _⟩⟩⟩
/-- list(xs), list(t) -/
theorem dn_listOf (hm : X.mg "list" = none) (ha : DE T X ε a d) (hd : d = .lst ds ∨ d = .tup ds) (i : (immAll ds || noOwn ε) = true) (hg : Gl X "list" := by rfl) (he : starEach [a] X.env = (false, eval a X.env) :: starEach [] X.env := by rfl) (hpl : (backTo pos (starEach [] X.env)).any (·.1) = false := by rfl) :
    DN T X ε (.Call (.Name "list" p) [a] [] pos) ds :=
  .of (pe_callTy call_list_of hg hm (by decide +kernel) (pa_cons ha.pe pa_nil he) (by decide) (by decide) he hpl) fun σ H H0 ev => arg1 ev fun x H1 g hx => by
    rcases hd with hd | hd
    · subst hd
      cases hx with
      | @lst q xs _ h1 a1 => exact ⟨q, xs, rfl, .inl (SqL.of h1), newLN ev g a1 i⟩
    · subst hd
      cases hx with
      | @tup q xs _ h1 a1 => exact ⟨q, xs, rfl, .inr (SqT.of h1), newLN ev g a1 i⟩
/-- tuple(xs) of a list -/
theorem de_tupOf (hm : X.mg "tuple" = none) (ha : DE T X ε a (.lst ds)) (hg : Gl X "tuple" := by rfl) (he : starEach [a] X.env = (false, eval a X.env) :: starEach [] X.env := by rfl) (hpl : (backTo pos (starEach [] X.env)).any (·.1) = false := by rfl) :
    DE T X ε (.Call (.Name "tuple" p) [a] [] pos) (.tup ds) :=
  .of (pe_callTy call_tuple_of hg hm (by decide +kernel) (pa_cons ha.pe pa_nil he) (by decide) (by decide) he hpl) fun σ H H0 ev => arg1 ev fun x H1 g hx => by
    cases hx with
    | @lst q xs _ h1 a1 => exact ⟨q, xs, rfl, .inl ⟨SqL.of h1, fun l hl => ⟨g.trans (Ex.new hl), .tup upd_same (a1.ex (Ex.new hl))⟩⟩⟩

/-! ### slices -/
def cutD (ds : List Dt) (lo hi : Option Int) : List Dt := (ds.drop (HT.sIx ds.length 0 lo)).take (HT.sIx ds.length ds.length hi - HT.sIx ds.length 0 lo)
theorem cut_da {P : Program} {w : World} {K : PySem.W.Frag} {H : Hp} {xs : List V} {lo hi : Option Int} (h : DaAll P w K H xs ds) : DaAll P w K H (cutV xs lo hi) (cutD ds lo hi) := by
  unfold cutV cutD
  rw [h.length]
  exact (h.drop _).take _
theorem immAll_cut {lo hi : Option Int} (i : immAll ds = true) : immAll (cutD ds lo hi) = true := by
  have : ∀ l : List Dt, (∀ d ∈ l, d.imm = true) → immAll l = true := by
    intro l
    induction l with
    | nil => intro _; rfl
    | cons a l ih => intro h; rw [immAll, h a (by simp), ih fun d hd => h d (List.mem_cons_of_mem _ hd)]; rfl
  exact this _ fun d hd => immAll_mem i (List.mem_of_mem_drop (List.mem_of_mem_take hd))
/-- xs[lo:], xs[:hi] -/
theorem dn_upto {p2 : Pos} {j : Int} (ha : DE T X ε a (.lst ds)) (hb : DE T X ε b (.int j)) (i : immAll ds = true) : DN T X ε (.Subscript a (.Slice none (some b) none p2) pos) (cutD ds none (some j)) :=
  .of (pe_slice sl_list ha.pe po_none (po_some hb.pe)) fun σ H H0 ev => one1 ev fun x H1 g hx => by
    refine ⟨H0, ev.grow g, fun y H2 ⟨g2, hy⟩ => ?_⟩
    cases hy
    cases hx with
    | @lst q xs _ h1 a1 => exact ⟨j, rfl, q, xs, rfl, SqL.of (g2.keep _ _ h1 (fun _ z => by cases z)), newL ev (g.trans g2) (cut_da (a1.ex g2)) (immAll_cut i)⟩
/-- xs[::-1] -/
theorem dn_rev {k : Nat} {p1 p2 p3 : Pos} (ha : DE T X ε a (.lst ds)) (i : immAll ds = true) : DN T X ε (.Subscript a (.Slice none none (some (.UnaryOp .USub (.Constant (.int 1) k p1) p2)) p3) pos) ds.reverse :=
  .of (pe_revL ha.pe) fun σ H H0 ev => one1 ev fun x H1 g hx => by
    cases hx with
    | @lst q xs _ h1 a1 =>
      refine ⟨q, xs, rfl, SqL.of h1, newL ev g a1.rev ?_⟩
      have : ∀ l : List Dt, (∀ d ∈ l, d.imm = true) → immAll l = true := by
        intro l
        induction l with
        | nil => intro _; rfl
        | cons a l ih => intro h; rw [immAll, h a (by simp), ih fun d hd => h d (List.mem_cons_of_mem _ hd)]; rfl
      exact this _ fun d hd => immAll_mem i (List.mem_reverse.mp hd)
end
end Cp
end
section
set_option maxHeartbeats 4000000
/-! Dicts with nested keys. -/
namespace Cp
open PySem PySem.Spec PyProof.Rows L2 LamX

/-! ### tables of data -/
def getD (kvs : List (NK × Dt)) (k : NK) : Option Dt := (kvs.find? fun kv => decide (kv.1 = k)).map (·.2)
def putD (kvs : List (NK × Dt)) (k : NK) (d : Dt) : List (NK × Dt) :=
  if (getD kvs k).isSome = true then kvs.map (fun kv => if kv.1 = k then (kv.1, d) else kv) else kvs ++ [(k, d)]
def getE (es : List (NK × Addr × V)) (k : NK) : Option (Addr × V) := (es.find? fun e => decide (e.1 = k)).map (·.2)
def putE (es : List (NK × Addr × V)) (k : NK) (b : Addr) (v : V) : List (NK × Addr × V) :=
  if (getE es k).isSome = true then es.map (fun e => if e.1 = k then (e.1, e.2.1, v) else e) else es ++ [(k, b, v)]
abbrev FE : NK × Addr × V → NK × Addr × Value → Prop := fun p q => p.1 = q.1 ∧ p.2.1 = q.2.1 ∧ RelV p.2.2 q.2.2
section
variable {P : Program} {w : World} {K : PySem.W.Frag} {H : Hp} {h : Heap} {a : Addr}
theorem fe_get {es : List (NK × Addr × V)} {ys : List (NK × Addr × Value)} (r : Paired FE es ys) (k : NK) :
    (getE es k = none ∧ atKey ys k = none) ∨ ∃ b v u, getE es k = some (b, v) ∧ atKey ys k = some (b, u) ∧ RelV v u := by
  induction r with
  | nil => exact .inl ⟨rfl, rfl⟩
  | @cons p q ps qs h t ih =>
    obtain ⟨h1, h2, h3⟩ := h
    by_cases e : p.1 = k
    · have e' : q.1 = k := h1.symm.trans e
      refine .inr ⟨p.2.1, p.2.2, q.2.2, by simp [getE, List.find?_cons, e], ?_, h3⟩
      rw [h2]
      simp [atKey, List.find?_cons, e']
    · have e' : ¬ q.1 = k := fun z => e (h1.trans z)
      have a : getE (p :: ps) k = getE ps k := by simp [getE, List.find?_cons, e]
      have b : atKey (q :: qs) k = atKey qs k := by simp [atKey, List.find?_cons, e']
      rw [a, b]; exact ih
theorem fe_repl {es : List (NK × Addr × V)} {ys : List (NK × Addr × Value)} (r : Paired FE es ys) (k : NK) {v : V} {u : Value} (rv : RelV v u) :
    Paired FE (es.map (fun e => if e.1 = k then (e.1, e.2.1, v) else e)) (ys.map (putAt k u)) := by
  induction r with
  | nil => exact .nil
  | @cons p q ps qs h t ih =>
    rw [List.map_cons, List.map_cons]
    refine .cons ?_ ih
    obtain ⟨h1, h2, h3⟩ := h
    unfold putAt
    by_cases e : p.1 = k
    · rw [if_pos e, if_pos (h1.symm.trans e)]; exact ⟨h1, h2, rv⟩
    · rw [if_neg e, if_neg (fun z => e (h1.trans z))]; exact ⟨h1, h2, h3⟩
theorem fe_put {es : List (NK × Addr × V)} {ys : List (NK × Addr × Value)} (r : Paired FE es ys) (k : NK) {b : Addr} {v : V} {u : Value} (rv : RelV v u) : Paired FE (putE es k b v) (storedH ys k b u) := by
  unfold putE storedH
  rcases fe_get r k with ⟨h1, h2⟩ | ⟨c, x, y, h1, h2, h3⟩
  · rw [h1, h2, if_neg (by decide), if_neg (by decide)]
    exact Paired.snoc r ⟨rfl, rfl, rv⟩
  · rw [h1, h2, if_pos (by rfl : (some _).isSome = true), if_pos (by rfl : (some _).isSome = true)]
    exact fe_repl r k rv
theorem fe_keys {es : List (NK × Addr × V)} {ys : List (NK × Addr × Value)} (r : Paired FE es ys) : es.map (·.1) = ys.map (·.1) := by
  induction r with
  | nil => rfl
  | cons h t ih => rw [List.map_cons, List.map_cons, ih, h.1]
/-- the entries' values, as data -/
theorem kvs_get {es : List (NK × Addr × V)} {kvs : List (NK × Dt)} (r : DaKvs P w K H es kvs) (k : NK) :
    (getE es k = none ∧ getD kvs k = none) ∨ ∃ b v d, getE es k = some (b, v) ∧ getD kvs k = some d ∧ Da P w K H v d := by
  match r with
  | .nil => exact .inl ⟨rfl, rfl⟩
  | @DaKvs.cons _ _ _ _ k' b x d es kvs h1 h2 h3 t =>
    by_cases e : k' = k
    · exact .inr ⟨b, x, d, by simp [getE, List.find?_cons, e], by simp [getD, List.find?_cons, e], h3⟩
    · have a : getE ((k', b, x) :: es) k = getE es k := by simp [getE, List.find?_cons, e]
      have c : getD ((k', d) :: kvs) k = getD kvs k := by simp [getD, List.find?_cons, e]
      rw [a, c]; exact kvs_get t k
theorem kvs_repl {es : List (NK × Addr × V)} {kvs : List (NK × Dt)} (r : DaKvs P w K H es kvs) (k : NK) {v : V} {d : Dt} (hd : Da P w K H v d) :
    DaKvs P w K H (es.map (fun e => if e.1 = k then (e.1, e.2.1, v) else e)) (kvs.map (fun kv => if kv.1 = k then (kv.1, d) else kv)) := by
  match r with
  | .nil => exact .nil
  | @DaKvs.cons _ _ _ _ k' b x d' es kvs h1 h2 h3 t =>
    rw [List.map_cons, List.map_cons]
    by_cases e : k' = k
    · rw [if_pos e, if_pos e]; exact .cons h1 h2 hd (kvs_repl t k hd)
    · rw [if_neg e, if_neg e]; exact .cons h1 h2 h3 (kvs_repl t k hd)
theorem kvs_snoc {es : List (NK × Addr × V)} {kvs : List (NK × Dt)} (r : DaKvs P w K H es kvs) {k : NK} {b : Addr} {v : V} {d : Dt} (hb : Da P w K H (.ref b) (kd k)) (hk : k.depth ≤ 8) (hd : Da P w K H v d) :
    DaKvs P w K H (es ++ [(k, b, v)]) (kvs ++ [(k, d)]) := by
  match r with
  | .nil => exact .cons hb hk hd .nil
  | .cons h1 h2 h3 t => exact .cons h1 h2 h3 (kvs_snoc t hb hk hd)
theorem kvs_put {es : List (NK × Addr × V)} {kvs : List (NK × Dt)} (r : DaKvs P w K H es kvs) {k : NK} {b : Addr} {v : V} {d : Dt} (hb : Da P w K H (.ref b) (kd k)) (hk : k.depth ≤ 8) (hd : Da P w K H v d) :
    DaKvs P w K H (putE es k b v) (putD kvs k d) := by
  unfold putE putD
  rcases kvs_get r k with ⟨h1, h2⟩ | ⟨c, x, y, h1, h2, h3⟩
  · rw [h1, h2, if_neg (by decide), if_neg (by decide)]
    exact kvs_snoc r hb hk hd
  · rw [h1, h2, if_pos (by rfl : (some _).isSome = true), if_pos (by rfl : (some _).isSome = true)]
    exact kvs_repl r k hd
theorem kvs_length {es : List (NK × Addr × V)} {kvs : List (NK × Dt)} (r : DaKvs P w K H es kvs) : es.length = kvs.length := by
  match r with
  | .nil => rfl
  | .cons _ _ _ t => rw [List.length_cons, List.length_cons, kvs_length t]
theorem kvs_keys {es : List (NK × Addr × V)} {kvs : List (NK × Dt)} (r : DaKvs P w K H es kvs) : es.map (·.1) = kvs.map (·.1) := by
  match r with
  | .nil => rfl
  | .cons _ _ _ t => rw [List.map_cons, List.map_cons, kvs_keys t]
theorem putE_keys (es : List (NK × Addr × V)) (k : NK) (b : Addr) (v : V) (n : (es.map (·.1)).Nodup) : ((putE es k b v).map (·.1)).Nodup := by
  unfold putE
  split
  · have : (es.map (fun e => if e.1 = k then (e.1, e.2.1, v) else e)).map (·.1) = es.map (·.1) := by
      rw [List.map_map]
      refine List.map_congr_left fun e _ => ?_
      show (if e.1 = k then (e.1, e.2.1, v) else e).1 = e.1
      split <;> rfl
    rw [this]; exact n
  · rename_i hn
    rw [List.map_append, List.nodup_append]
    refine ⟨n, by simp, fun x hx y hy e => ?_⟩
    subst e
    have hy : x = k := by simpa using hy
    subst hy
    obtain ⟨e, he, q⟩ := List.mem_map.mp hx
    apply hn
    unfold getE
    rw [Option.isSome_map, List.find?_isSome]
    exact ⟨e, he, by simpa using q⟩
theorem putE_length (es : List (NK × Addr × V)) (k : NK) (b : Addr) (v : V) : (putE es k b v).length ≤ es.length + 1 := by
  unfold putE
  split
  · rw [List.length_map]; omega
  · rw [List.length_append, List.length_cons, List.length_nil]; omega

/-! ### a key read from the heap -/
theorem kd_none : kd .none = .non := rfl
theorem kd_num {i : Int} : kd (.num i) = .int i := rfl
theorem kd_text {x : Str} : kd (.text x) = .str x := rfl
theorem kd_tup {ks : List NK} : kd (.tup ks) = .tup (kds ks) := rfl
mutual
theorem is_key (ok : HOk P w H h) : ∀ (k : NK) {v : V} {u : Value}, Da P w K H v (kd k) → RelV v u → NestedIs h k u
  | .none, v, u, d, r => by
    rw [kd_none] at d
    cases d
    have e : u = .none := r
    rw [e]; exact .none
  | .num i, v, u, d, r => by
    rw [kd_num] at d
    cases d
    obtain ⟨t, e⟩ := (show ∃ t, u = Value.int i t from r)
    rw [e]; exact .int i t
  | .text x, v, u, d, r => by
    rw [kd_text] at d
    cases d
    obtain ⟨t, e⟩ := (show ∃ t, u = Value.str x t from r)
    rw [e]; exact .text x t
  | .tup ks, v, u, d, r => by
    rw [kd_tup] at d
    cases d with
    | @tup a xs _ h1 a1 =>
      have e : u = .ref a := r
      rw [e]
      obtain ⟨_, its, r2, o, g1, g2, n, g3⟩ := (show ObjOk P w H h a (.tup xs) from ok a _ h1)
      exact .tup g1 g2 g3 (by simpa using is_keys ok ks a1 r2)
theorem is_keys (ok : HOk P w H h) : ∀ (ks : List NK) {vs : List V} {us : List Value}, DaAll P w K H vs (kds ks) → Vals vs us → NestedAll h ks us
  | [], vs, us, d, r => by
    have d : DaAll P w K H vs [] := d
    cases d
    cases r
    exact .nil
  | k :: ks, vs, us, d, r => by
    have d : DaAll P w K H vs (kd k :: kds ks) := d
    cases d with
    | cons d1 d2 =>
      cases r with
      | cons r1 r2 => exact .cons (is_key ok k d1 r1) (is_keys ok ks d2 r2)
end
theorem do_at {es : List (NK × Addr × V)} (ok : HOk P w H h) (e : H a = some (dictO P w a es)) : ∃ ys, Paired FE es ys ∧ ∃ (o : Obj) (as : Array DictEntry) (ep : Nat), h.get? a = some o ∧ o.ExactDict ∧ o.data = .dict as ep ∧ as.toList = ys.map (entryOfKey (nestedKind P w)) :=
  (show ObjOk P w H h a (dictO P w a es) from ok a _ e).1
theorem keys_are {es : List (NK × Addr × V)} {kvs : List (NK × Dt)} {ys : List (NK × Addr × Value)} (ok : HOk P w H h) (r : DaKvs P w K H es kvs) (f : Paired FE es ys) : ∀ y ∈ ys, (nestedKind P w).is h y.1 y.2.1 := by
  match r, f with
  | .nil, .nil => intro y hy; cases hy
  | @DaKvs.cons _ _ _ _ k' b x d' es kvs h1 h2 h3 t, .cons (b := q) g tt =>
    intro y hy
    rcases List.mem_cons.mp hy with e | hy
    · subst e
      obtain ⟨g1, g2, g3⟩ := g
      refine ⟨?_, by rw [← g1]; exact h2⟩
      rw [← g1, ← g2]
      exact is_key ok k' h1 rfl
    · exact keys_are ok t tt y hy
/-- a dict as the rules of keyed dicts know it -/
theorem do_of {es : List (NK × Addr × V)} {kvs : List (NK × Dt)} (ok : HOk P w H h) (e : H a = some (dictO P w a es)) (r : DaKvs P w K H es kvs) (n : (es.map (·.1)).Nodup) : ∃ ys, Paired FE es ys ∧ h.DictOfH (nestedKind P w) a ys := by
  obtain ⟨ys, f, o, as, ep, g1, g2, g3, g4⟩ := do_at ok e
  exact ⟨ys, f, o, as, ep, g1, g2, g3, g4, keys_are ok r f, by rw [← fe_keys f]; exact n⟩
theorem do_ok {es : List (NK × Addr × V)} {ys : List (NK × Addr × Value)} {H' : Hp} (f : Paired FE es ys) (d : h.DictOfH (nestedKind P w) a ys) : ObjOk P w H' h a (dictO P w a es) := by
  obtain ⟨o, as, ep, g1, g2, g3, g4, _, _⟩ := d
  refine ⟨⟨ys, f, o, as, ep, g1, g2, g3, g4⟩, ⟨o, g1⟩, fun h1 h2 ⟨zs, f', o', as', ep', q1, q2, q3, q4⟩ k => ⟨zs, f', o', as', ep', k _ q1, q2, q3, q4⟩⟩
end
theorem nk_room {P : Program} {w : World} {A : Around} (hu : A.units + 9 < cLine) : (nestedKind P w).room A.in1 := by
  show A.in1.units + 8 < cLine
  have : A.in1.units = A.units + 1 := rfl
  omega

/-! ### reading, asking, storing -/
section
variable {X : Cx} {pins : List (Addr × Obj)} {σ : L2.St} {H : Hp} {s : Shared} {a : Addr} {v y : V} {u r : Value} {A : Around} {E : Value → Shared → Prop} {kvs : List (NK × Dt)} {k : NK} {d : Dt}
theorem no_getItem {Q : Value → Shared → Prop} (hu : A.units + 9 < cLine) (I : Inv X pins σ H s) (hd : Da X.prog X.w X.K H (.ref a) (.dic kvs)) (hk : Da X.prog X.w X.K H v (kd k)) (h8 : k.depth ≤ 8) (ht : ∃ ks, k = .tup ks) (rv : RelV v u) (hg : getD kvs k = some d)
    (h : ∀ v' w' s', Inv X pins σ H s' → RelV v' w' → Da X.prog X.w X.K H v' d → Q w' s') : s.TypeIs (.ref a) "dict" ∧ wpAny (model X.prog X.w) A (getItem (.ref a) u) Q E s := by
  cases hd with
  | @dic _ es _ h1 a1 n l sm =>
    obtain ⟨ys, f, dd⟩ := do_of I.hok h1 a1 n
    refine ⟨dd.typeIs, ?_⟩
    obtain ⟨ks, rfl⟩ := ht
    rw [kd_tup] at hk
    have hk' := hk
    cases hk' with
    | @tup b xs _ hb ab =>
      cases (show u = Value.ref b from rv)
      have hkey := is_key I.hok (.tup ks) (v := .ref b) (u := .ref b) (by rw [kd_tup]; exact hk) rfl
      rcases kvs_get a1 (.tup ks) with ⟨_, z⟩ | ⟨c, x, d', g1, g2, g3⟩
      · rw [z] at hg; cases hg
      · rw [g2] at hg; cases hg
        rcases fe_get f (.tup ks) with ⟨z, _⟩ | ⟨c', x', u', q1, q2, q3⟩
        · rw [z] at g1; cases g1
        · rw [q1] at g1; cases g1
          exact wpAny_getItem_heap (nk_room hu) ⟨hkey, h8⟩ dd q2 (h x u' _ (I.tok _) q3 g3)
theorem no_in {Q : Value → Shared → Prop} (hu : A.units + 9 < cLine) (I : Inv X pins σ H s) (hd : Da X.prog X.w X.K H (.ref a) (.dic kvs)) (hk : Da X.prog X.w X.K H v (kd k)) (h8 : k.depth ≤ 8) (ht : ∃ ks, k = .tup ks) (rv : RelV v u)
    (h : ∀ s', Inv X pins σ H s' → Q (.bool (getD kvs k).isSome) s') : wpAny (model X.prog X.w) A (compareOp .In u (.ref a)) Q E s := by
  cases hd with
  | @dic _ es _ h1 a1 n l sm =>
    obtain ⟨ys, f, dd⟩ := do_of I.hok h1 a1 n
    obtain ⟨ks, rfl⟩ := ht
    rw [kd_tup] at hk
    have hk' := hk
    cases hk' with
    | @tup b xs _ hb ab =>
      cases (show u = Value.ref b from rv)
      have hkey := is_key I.hok (.tup ks) (v := .ref b) (u := .ref b) (by rw [kd_tup]; exact hk) rfl
      refine wpAny_in_heap (nk_room hu) ⟨hkey, h8⟩ sm dd ?_
      have e : (atKey ys (.tup ks)).isSome = (getD kvs (.tup ks)).isSome := by
        rcases kvs_get a1 (.tup ks) with ⟨z1, z2⟩ | ⟨c, x, d', g1, g2, g3⟩
        · rcases fe_get f (.tup ks) with ⟨_, q2⟩ | ⟨c', x', u', q1, q2, q3⟩
          · rw [z2, q2]; rfl
          · rw [z1] at q1; cases q1
        · rcases fe_get f (.tup ks) with ⟨q1, q2⟩ | ⟨c', x', u', q1, q2, q3⟩
          · rw [g1] at q1; cases q1
          · rw [g2, q2]; rfl
      rw [e]
      exact h _ (I.tok _)
theorem no_get2 {dd0 : Dt} {Q : Value → Shared → Prop} (hu : A.units + 9 < cLine) (I : Inv X pins σ H s) (hd : Da X.prog X.w X.K H (.ref a) (.dic kvs)) (hk : Da X.prog X.w X.K H v (kd k)) (h8 : k.depth ≤ 8) (ht : ∃ ks, k = .tup ks) (rv : RelV v u) (hy : Da X.prog X.w X.K H y dd0) (ry : RelV y r)
    (h : ∀ v' w' s', Inv X pins σ H s' → RelV v' w' → Da X.prog X.w X.K H v' ((getD kvs k).getD dd0) → Q w' s') : wpAny (model X.prog X.w) A (call (.builtin "dict.get") [.ref a, u, r]) Q E s := by
  cases hd with
  | @dic _ es _ h1 a1 n l sm =>
    obtain ⟨ys, f, dd⟩ := do_of I.hok h1 a1 n
    obtain ⟨ks, rfl⟩ := ht
    rw [kd_tup] at hk
    have hk' := hk
    cases hk' with
    | @tup b xs _ hb ab =>
      cases (show u = Value.ref b from rv)
      have hkey := is_key I.hok (.tup ks) (v := .ref b) (u := .ref b) (by rw [kd_tup]; exact hk) rfl
      have e : ∃ v', RelV v' (((atKey ys (.tup ks)).map (·.2)).getD r) ∧ Da X.prog X.w X.K H v' ((getD kvs (.tup ks)).getD dd0) := by
        rcases kvs_get a1 (.tup ks) with ⟨z1, z2⟩ | ⟨c, x, d', g1, g2, g3⟩
        · rcases fe_get f (.tup ks) with ⟨_, q2⟩ | ⟨c', x', u', q1, q2, q3⟩
          · rw [z2, q2]; exact ⟨y, ry, hy⟩
          · rw [z1] at q1; cases q1
        · rcases fe_get f (.tup ks) with ⟨q1, q2⟩ | ⟨c', x', u', q1, q2, q3⟩
          · rw [g1] at q1; cases q1
          · rw [g2, q2]
            rw [q1] at g1; cases g1
            exact ⟨x, q3, g3⟩
      obtain ⟨v', e1, e2⟩ := e
      exact call_meetsIn PySem.F.slot_dict_get dd.typeIs PySem.F.entry_dict_get (PySem.F.args_dict_get_3 _ _ _) (meetsH_dict_get_default (nestedKind X.prog X.w) a b sm r) ⟨nk_room hu, .tup ks, ys, ⟨hkey, h8⟩, dd, h v' _ _ (I.tok _) e1 e2⟩
/-- a[k] = v, the entries known -/
theorem no_setItem {es : List (NK × Addr × V)} {b : Addr} {ks : List NK} {Q : Unit → Shared → Prop} (hu : A.units + 9 < cLine) (I : Inv X pins σ H s) (h1 : H a = some (dictO X.prog X.w a es)) (a1 : DaKvs X.prog X.w X.K H es kvs) (n : (es.map (·.1)).Nodup) (l : es.length ≤ sizeLine)
    (hk : Da X.prog X.w X.K H (.ref b) (kd (.tup ks))) (h8 : (NestedKey.tup ks).depth ≤ 8) (rv : RelV v r)
    (h : ∀ s', Inv X pins σ (upd H a (dictO X.prog X.w a (putE es (.tup ks) b v))) s' → Q () s') : wpAny (model X.prog X.w) A (setItem (.ref a) (.ref b) r) Q E s := by
  obtain ⟨ys, f, dd⟩ := do_of I.hok h1 a1 n
  have hkey := is_key I.hok (.tup ks) (u := .ref b) hk rfl
  have hz : ys.length ≤ sizeLine := by rw [← Paired.length f]; exact l
  refine wpAny_setItem_heap (hsz := hz) (nk_room hu) ⟨hkey, h8⟩ dd fun h' dd' hs => h _ ?_
  have he : ∃ q, h'.get? a = some q := let ⟨q, _, _, hq, _⟩ := dd'; ⟨q, hq⟩
  exact d_write I (by rw [h1]; exact True.intro) hs he (do_ok (fe_put f (.tup ks) rv) dd')
end

/-! ### rules -/
section
variable {T : List (Addr × Str)} {X : Cx} {ε : List Sl} {e a b c o i value : Expr} {es : List Expr} {d d1 d2 dk : Dt} {ds : List Dt} {G : GP} {pos pos' tpos : Pos} {kvs : List (NK × Dt)} {P : Oc → Prop}
/-- d[k] -/
theorem de_dget (ks : List NK) (hu : X.A.units + 9 < cLine) (ho : DE T X ε o (.dic kvs)) (hi : DE T X ε i dk) (hg : getD kvs (.tup ks) = some d) (hk : dk = kd (.tup ks) := by rfl) (h8 : (NestedKey.tup ks).depth ≤ 8 := by exact Nat.le_of_ble_eq_true rfl) (hs : NoSl i := by intro _ _; rfl) : DE T X ε (.Subscript o i pos) d := by
  refine ⟨fun pins s σ H H0 I ev => ?_⟩
  refine subD_of PySem.F.slot_dict_getitem.lookup hs (thn (ho.run pins s σ H H0 I ev) fun u s1 ⟨x, H1, I1, rx, g1, q1⟩ => thn (hi.run pins s1 σ H1 H0 I1 (ev.grow g1)) fun iv s2 ⟨y, H2, I2, ry, g2, q2⟩ => ?_)
  subst hk
  have q3 := q1.ex g2
  cases q3 with
  | @dic p es' _ h1 a1 n l sm =>
    cases (show u = Value.ref p from rx)
    exact no_getItem hu I2 (.dic h1 a1 n l sm) q2 h8 ⟨ks, rfl⟩ ry hg fun v' w' s3 I3 rw' hd' => ⟨v', H2, I3, rw', g1.trans g2, hd'⟩
/-- k in d -/
theorem c_inD (ks : List NK) (hu : X.A.units + 9 < cLine) (hk : dk = kd (.tup ks) := by rfl) (h8 : (NestedKey.tup ks).depth ≤ 8 := by exact Nat.le_of_ble_eq_true rfl) : CmpD X .In dk (.dic kvs) (getD kvs (.tup ks)).isSome := by
  refine ⟨fun x y H Q => Da X.prog X.w X.K H x (kd (.tup ks)) ∧ Da X.prog X.w X.K H y (.dic kvs) ∧ Q (.bl (getD kvs (.tup ks)).isSome) H, fun pins s σ H x y v u Q I rx ry ⟨h1, h2, q⟩ => ?_, fun x y H Q hx hy k => ⟨by rw [← hk]; exact hx, hy, k H (Ex.refl H)⟩⟩
  have h3 := h2
  cases h3 with
  | @dic p es' _ _ _ _ _ _ =>
    cases (show u = Value.ref p from ry)
    exact no_in hu I h2 h1 h8 ⟨ks, rfl⟩ rx fun s3 I3 => ⟨.bl _, H, I3, rfl, q⟩
/-- d.get(k, x) -/
theorem de_dget2 {apos cpos : Pos} {f : Expr} {dd0 : Dt} (ks : List NK) (hu : X.A.units + 9 < cLine) (ho : DE T X ε o (.dic kvs)) (he : DE T X ε e dk) (hf : DE T X ε f dd0) (hk : dk = kd (.tup ks) := by rfl) (h8 : (NestedKey.tup ks).depth ≤ 8 := by exact Nat.le_of_ble_eq_true rfl)
    (m : M2 X o "get" apos e f cpos := by exact ⟨rfl, rfl, rfl, rfl⟩) : DE T X ε (.Call (.Attribute o "get" apos) [e, f] [] cpos) ((getD kvs (.tup ks)).getD dd0) := by
  refine ⟨fun pins s σ H H0 I ev => ?_⟩
  refine wpAny_Call_method m.base m.few m.line PySem.F.plainAttrs_dict PySem.F.slot_dict_get PySem.F.type_dict_get (thn (ho.run pins s σ H H0 I ev) fun u s1 ⟨x, H1, I1, rx, g1, q1⟩ => ?_)
  have q1' := q1
  cases q1' with
  | @dic p es' _ h1 a1 n l sm =>
    cases (show u = Value.ref p from rx)
    obtain ⟨ys, ff, dd⟩ := do_of I1.hok h1 a1 n
    refine ⟨dd.typeIs, fun b q => ?_, ?_⟩
    · cases q
      obtain ⟨ob, _, _, z1, z2, _⟩ := dd
      exact ⟨ob, z1, z2.2.1⟩
    rw [m.trees]
    refine Calls.callWith_builtin rfl (Calls.evalArgs_plain (Calls.spliced_cons (thn (he.run pins s1 σ H1 H0 I1 (ev.grow g1)) fun iv s2 ⟨y, H2, I2, ry, g2, q2⟩ =>
      Calls.spliced_cons (thn (hf.run pins s2 σ H2 H0 I2 (ev.grow (g1.trans g2))) fun fv s3 ⟨z, H3, I3, rz, g3, q3⟩ => Calls.spliced_nil ?_))))
    subst hk
    exact no_get2 hu I3 (q1.ex (g2.trans g3)) (q2.ex g3) h8 ⟨ks, rfl⟩ ry q3 rz fun v' w' s4 I4 rw' hd' => ⟨v', H3, I4, rw', (g1.trans g2).trans g3, hd'⟩
/-- {} -/
theorem dd_new : DD T X ε (.Dict [] [] pos) [] := by
  refine ⟨fun pins s σ H H0 I ev => ?_⟩
  have hp : H s.heap.objs.size = none := I.hok.fresh (Nat.le_refl _)
  refine wpAny_Dict_empty ⟨.ref s.heap.objs.size, _, I.laid (a := s.heap.objs.size) (o := dictO X.prog X.w s.heap.objs.size []) (t' := s.toks) (fun _ _ q => Heap.get?_push_of_some _ q) (Nat.le_refl _) (do_ok .nil (Heap.DictOfH.new s.heap)), rfl,
    H, _, [], rfl, Ex.refl H, hp, rfl, .nil, List.nodup_nil, Nat.zero_le _, ?_⟩
  exact beq_eq_false_iff_ne.mpr (Ne.symm (Nat.ne_of_lt I.big))
/-- d[k] = v, d a dict of one's own -/
theorem d_put (j : Nat) (ks : List NK) {x : Str} {p1 : Pos} (hu : X.A.units + 9 < cLine) (hε : ε[j]? = some (.od kvs)) (hi : DE T X ε i dk) (hv : DE T X ε value d) (hd : d.imm = true) (hl : kvs.length ≤ 100000) (h : P (.nx (ε.set j (.od (putD kvs (.tup ks) d))))) (hk : dk = kd (.tup ks) := by rfl)
    (hki : (kd (.tup ks)).imm = true := by rfl) (h8 : (NestedKey.tup ks).depth ≤ 8 := by exact Nat.le_of_ble_eq_true rfl) (hN : X.N[j]? = some x := by rfl)
    (hvx : Vis X.env.scope x := by first | exact Or.inl rfl | exact Or.inr (Or.inl rfl) | exact Or.inr (Or.inr rfl)) (hd1 : (x == ("__debug__" : Str)) = false := by decide) (hcd : (x == ("__classdict__" : Str)) = false := by decide)
    (hs : swapsWith value (some (.Subscript (.Name x p1) i pos')) pos.line X.env = pure false := by rfl) : DS T X ε (.Assign [.Subscript (.Name x p1) i pos'] value pos) P := by
  refine ⟨fun pins s σ H H0 I ev => ?_⟩
  refine wpAny_Assign_Subscript (thn (hv.run pins s σ H H0 I ev) fun r s1 ⟨v, H1, I1, rv, g1, q1⟩ => ?_) hs
  have ev1 := ev.grow g1
  obtain ⟨y, y1, p, es', e1, e2, e3, n, l, sm⟩ := pget ev1.sl hε
  subst e1
  refine thn ((pe_var hN hvx hd1 hcd).run pins s1 σ H1 (fun v' H' => v' = .ref p ∧ H' = H1) I1 ⟨_, y1, rfl, rfl⟩) fun u s2 ⟨x', H2, I2, rx, ex, eH⟩ => ?_
  subst ex eH
  cases (show u = Value.ref p from rx)
  refine thn (hi.run pins s2 σ H2 H0 I2 ev1) fun iv s3 ⟨kv, H3, I3, rk, g3, q3⟩ => ?_
  have ev3 := ev1.grow g3
  subst hk
  have q4 := q3
  rw [kd_tup] at q4
  cases q4 with
  | @tup b xs _ hb ab =>
    cases (show iv = Value.ref b from rk)
    have c3 := cut_ex ev1.own g3
    have e2' := g3.keep _ _ e2 (dictO_tbl _ _)
    have e3' : DaKvs X.prog X.w X.K (cut (owns σ ε) H3) es' kvs := e3.ex c3
    refine no_setItem hu I3 e2' (e3'.ex cut_sub.ex) n l q3 h8 rv fun s4 I4 => ⟨σ, _, I4, ?_⟩
    have q5 : Da X.prog X.w X.K (cut (owns σ ε) H3) (.ref b) (kd (.tup ks)) := q3.imm_cut ev3.own hki
    have q6 : Da X.prog X.w X.K (cut (owns σ ε) H3) v d := (q1.ex g3).imm_cut ev3.own hd
    refine ⟨_, ev3.updO (s := .od (putD kvs (.tup ks) d)) hε rfl y1 rfl ⟨p, putE es' (.tup ks) b v, rfl, upd_same, kvs_put e3' q5 h8 q6, putE_keys _ _ _ _ n, ?_, sm⟩, h⟩
    have := putE_length es' (.tup ks) b v
    have := kvs_length e3
    rw [sizeLine_eq]; omega
end
end Cp
end
section
set_option maxHeartbeats 4000000
/-! List comprehensions. -/
namespace Cp
open PySem PySem.Spec PyProof.Rows L2 LamX

/-! ### data without lists -/
mutual
def Dt.nolst : Dt → Bool
  | .tup ds => nolstAll ds
  | .lst _ => false
  | .dic kvs => nolstKvs kvs
  | .obj _ fs => nolstFs fs
  | .scr _ _ => false
  | _ => true
def nolstAll : List Dt → Bool
  | [] => true
  | d :: ds => d.nolst && nolstAll ds
def nolstKvs : List (NK × Dt) → Bool
  | [] => true
  | (_, d) :: ds => d.nolst && nolstKvs ds
def nolstFs : List (Str × Dt) → Bool
  | [] => true
  | (_, d) :: ds => d.nolst && nolstFs ds
end
section
variable {P : Program} {w : World} {K : PySem.W.Frag} {H H' : Hp}
def NL (o : HO) : Prop := (∃ xs, o = .tup xs) ∨ (∃ P w a es, o = dictO P w a es) ∨ (∃ C dx fs, o = .ins C dx fs)
mutual
theorem Da.monoN (k : ∀ b o, H b = some o → NL o → H' b = some o) : ∀ {v : V} {d : Dt}, Da P w K H v d → d.nolst = true → Da P w K H' v d
  | _, _, .non, _ => .non
  | _, _, .bl b, _ => .bl b
  | _, _, .int i, _ => .int i
  | _, _, .str x, _ => .str x
  | _, _, .tup h a, i => .tup (k _ _ h (.inl ⟨_, rfl⟩)) (DaAll.monoN k a (by unfold Dt.nolst at i; exact i))
  | _, _, .lst h a, i => by unfold Dt.nolst at i; cases i
  | _, _, .dic h a n l s, i => .dic (k _ _ h (.inr (.inl ⟨_, _, _, _, rfl⟩))) (DaKvs.monoN k a (by unfold Dt.nolst at i; exact i)) n l s
  | _, _, .obj h a, i => .obj (k _ _ h (.inr (.inr ⟨_, _, _, rfl⟩))) (DaFs.monoN k a (by unfold Dt.nolst at i; exact i))
  | _, _, .scr h, i => by unfold Dt.nolst at i; cases i
theorem DaAll.monoN (k : ∀ b o, H b = some o → NL o → H' b = some o) : ∀ {vs : List V} {ds : List Dt}, DaAll P w K H vs ds → nolstAll ds = true → DaAll P w K H' vs ds
  | _, _, .nil, _ => .nil
  | _, _, .cons a b, i => by
    unfold nolstAll at i
    rw [Bool.and_eq_true] at i
    exact .cons (Da.monoN k a i.1) (DaAll.monoN k b i.2)
theorem DaKvs.monoN (k : ∀ b o, H b = some o → NL o → H' b = some o) : ∀ {es : List (NK × Addr × V)} {kvs : List (NK × Dt)}, DaKvs P w K H es kvs → nolstKvs kvs = true → DaKvs P w K H' es kvs
  | _, _, .nil, _ => .nil
  | _, _, .cons (k := kk) a l b c, i => by
    unfold nolstKvs at i
    rw [Bool.and_eq_true] at i
    exact .cons (Da.monoI (fun b xs h => k b _ h (.inl ⟨_, rfl⟩)) a (kd_imm kk)) l (Da.monoN k b i.1) (DaKvs.monoN k c i.2)
theorem DaFs.monoN (k : ∀ b o, H b = some o → NL o → H' b = some o) : ∀ {fs : List (Str × V)} {gs : List (Str × Dt)}, DaFs P w K H fs gs → nolstFs gs = true → DaFs P w K H' fs gs
  | _, _, .nil, _ => .nil
  | _, _, .cons a b, i => by
    unfold nolstFs at i
    rw [Bool.and_eq_true] at i
    exact .cons (Da.monoN k a i.1) (DaFs.monoN k b i.2)
end
theorem nl_cut {D : Addr} {xs : List V} (h : H D = some (.lst xs)) : ∀ b o, H b = some o → NL o → cut [D] H b = some o := fun b o q n => by
  rw [cut_out]
  · exact q
  · intro z
    have z : b = D := by simpa using z
    subst z
    rw [h] at q
    cases q
    rcases n with ⟨_, e⟩ | ⟨P, w, a, es, e⟩ | ⟨_, _, _, e⟩
    · cases e
    · unfold dictO at e; cases e
    · cases e
end

/-! ### slots forgotten -/
def wipeE (ε : List Sl) : List Nat → List Sl
  | [] => ε
  | v :: vs => (wipeE ε vs).set v .no
section
variable {P : Program} {w : World} {K : PySem.W.Frag} {T : List (Addr × Str)} {H0 H : Hp} {σ : L2.St} {ε : List Sl}
theorem owns_drop {i : Nat} {v : Option V} {a : Addr} (h : a ∈ owns (σ.set i v) (ε.set i .no)) : a ∈ owns σ ε := by
  rcases owns_set_mem h with ⟨_, h2⟩ | h2
  · cases h2
  · exact h2
theorem EnvOk.wipe (e : EnvOk P w K T H0 H σ ε) : ∀ vs, EnvOk P w K T H0 H (L2.wipe σ vs) (wipeE ε vs) ∧ ∀ a, a ∈ owns (L2.wipe σ vs) (wipeE ε vs) → a ∈ owns σ ε
  | [] => ⟨e, fun a h => h⟩
  | v :: vs => by
    obtain ⟨h1, h2⟩ := EnvOk.wipe e vs
    exact ⟨h1.drop v none, fun a h => h2 a (owns_drop h)⟩
theorem cut_sub_of {A B : List Addr} (h : ∀ a, a ∈ B → a ∈ A) : Sub (cut A H) (cut B H) := fun b o q => by
  by_cases hb : b ∈ A
  · rw [cut_in hb] at q; cases q
  · rw [cut_out hb] at q
    rw [cut_out (fun z => hb (h b z))]; exact q
theorem wipe_get : ∀ (vs : List Nat) (σ : L2.St) (i : Nat), (L2.wipe σ vs)[i]? = if i ∈ vs then (σ[i]?).map (fun _ => none) else σ[i]?
  | [], σ, i => by simp [L2.wipe]
  | v :: vs, σ, i => by
    unfold L2.wipe
    rw [List.getElem?_set]
    by_cases e : v = i
    · subst e
      rw [L2.wipe_length]
      by_cases hl : v < σ.length
      · simp [hl]
      · simp [hl]
    · rw [if_neg e, wipe_get vs σ i]
      simp [Ne.symm e]
theorem wipe_same {σ2 : L2.St} {vs js : List Nat} (sb : SameBut js (L2.wipe σ vs) σ2) (hj : ∀ j ∈ js, j ∈ vs) : L2.wipe σ2 vs = L2.wipe σ vs := by
  apply List.ext_getElem?
  intro i
  rw [wipe_get, wipe_get]
  have hl : σ2.length = σ.length := by rw [sb.1, L2.wipe_length]
  by_cases hi : i ∈ vs
  · rw [if_pos hi, if_pos hi]
    by_cases h : i < σ.length
    · rw [List.getElem?_eq_getElem h, List.getElem?_eq_getElem (by omega)]; rfl
    · rw [List.getElem?_eq_none (by omega), List.getElem?_eq_none (by omega)]
  · rw [if_neg hi, if_neg hi, sb.2 i (fun z => hi (hj i z)), wipe_get, if_neg hi]
end

/-! ### the rule -/
/-- a block's context -/
abbrev BX (X : Cx) (scope : Scope) (s : Shared) (H : Hp) (C : Addr) (cl : List (Str × Addr)) (fp : List Addr) : Cx := X.blk s H scope (compEnvC scope cl C X.env) fp
/-- conditions: none, or one -/
def DTs (T : List (Addr × Str)) (X : Cx) (ε : List Sl) (ifs : List Expr) (b : Bool) : Prop := (ifs = [] ∧ b = true) ∨ ∃ c, ifs = [c] ∧ DT T X ε c b
theorem dts_nil {T : List (Addr × Str)} {X : Cx} {ε : List Sl} : DTs T X ε [] true := .inl ⟨rfl, rfl⟩
theorem dts_one {T : List (Addr × Str)} {X : Cx} {ε : List Sl} {c : Expr} {b : Bool} (h : DT T X ε c b) : DTs T X ε [c] b := .inr ⟨c, rfl, h⟩
theorem DTs.pts {T : List (Addr × Str)} {X : Cx} {ε : List Sl} {ifs : List Expr} {b : Bool} (h : DTs T X ε ifs b) : PTs X ifs (tGT T X ε b) := by
  rcases h with ⟨rfl, rfl⟩ | ⟨c, rfl, h⟩
  · exact ⟨fun pins s σ H Q I ⟨H0, ev, k⟩ => pts_nil.run pins s σ H Q I (k H (Ex.refl H))⟩
  · exact pts_one h.pt
section
variable {T : List (Addr × Str)} {X : Cx} {ε : List Sl} {e a b c elt tg iter : Expr} {ifs : List Expr} {scope : Scope} {pos : Pos}
/-- in every block's context -/
abbrev BAll (X : Cx) (scope : Scope) (p : Cx → Prop) : Prop := ∀ (s : Shared) (H : Hp) (C : Addr) (cl : List (Str × Addr)) (fp : List Addr), p (BX X scope s H C cl fp)
def gAny (T : List (Addr × Str)) (X : Cx) (scope : Scope) (tg : Expr) : TG := fun v σ H Q => ∃ d js f ε H0, BAll X scope (fun Y => DTg T Y tg d js f) ∧ EnvOk X.prog X.w X.K T H0 H σ ε ∧ Da X.prog X.w X.K (cut (owns σ ε) H) v d ∧ ∀ σ' H', EnvOk X.prog X.w X.K T H0 H' σ' (f ε) → SameBut js σ σ' → Ex H H' → Q σ' H'
def tAnys (T : List (Addr × Str)) (X : Cx) (scope : Scope) (ifs : List Expr) : TT := fun σ H Q => ∃ ε b H0, BAll X scope (fun Y => DTs T Y ε ifs b) ∧ EnvOk X.prog X.w X.K T H0 H σ ε ∧ ∀ H', Ex H H' → Q b H'
def eAny (T : List (Addr × Str)) (X : Cx) (scope : Scope) (elt : Expr) : TE := fun σ H Q => ∃ ε G H0, BAll X scope (fun Y => DG T Y ε elt G) ∧ EnvOk X.prog X.w X.K T H0 H σ ε ∧ ∀ v H', G (owns σ ε) H v H' → Q v H'
theorem pg_any : BAll X scope (fun Y => PG Y tg (gAny T X scope tg)) := fun s H C cl fp => ⟨fun pins s1 σ H1 v u Q I r ⟨d, js, f, ε, H0, t, ev, h, k⟩ => (pg_tg (T := T)).run pins s1 σ H1 v u Q I r ⟨d, js, f, ε, H0, t s H C cl fp, ev, h, k⟩⟩
theorem pts_any : BAll X scope (fun Y => PTs Y ifs (tAnys T X scope ifs)) := fun s H C cl fp => ⟨fun pins s1 σ H1 Q I ⟨ε, b, H0, t, ev, k⟩ => (t s H C cl fp).pts.run pins s1 σ H1 Q I ⟨H0, ev, k⟩⟩
theorem pe_any : BAll X scope (fun Y => PE Y elt (eAny T X scope elt)) := fun s H C cl fp => ⟨fun pins s1 σ H1 Q I ⟨ε, G, H0, t, ev, k⟩ => (t s H C cl fp).pe.run pins s1 σ H1 Q I ⟨H0, ev, k⟩⟩

/-- what a turn gives may be added to a list at D -/
def Adds (X : Cx) (G : GP) (d : Dt) : Prop := ∀ (A : List Addr) (H : Hp) (v : V) (H' : Hp) (D : Addr) (acc : List V), H D = some (.lst acc) → G A H v H' → Ex H H' ∧ Da X.prog X.w X.K (cut [D] H') v d
theorem adds_E {d : Dt} (h : d.nolst = true) : Adds X (gE X d) d := fun A H v H' D acc hD ⟨g, a⟩ => ⟨g, a.monoN (nl_cut (g.keep _ _ hD (fun _ z => by cases z))) h⟩
theorem adds_N {ds : List Dt} (h : immAll ds = true) : Adds X (gN X ds) (.lst ds) := fun A H v H' D acc hD ⟨H1, p, xs, e1, g, hp, e2, a⟩ => by
  subst e1 e2
  have hD1 := g.keep _ _ hD (fun _ z => by cases z)
  have np : p ≠ D := fun z => by subst z; rw [hp] at hD1; cases hD1
  have hD2 : upd H1 p (.lst xs) D = some (.lst acc) := by rw [upd_ne (Ne.symm np)]; exact hD1
  refine ⟨g.trans (Ex.new hp), .lst (by rw [cut_out (by simpa using np), upd_same]) ?_⟩
  refine ((a.ex cut_sub.ex).ex (Ex.new hp)).imm_cut (fun b hb => ?_) h
  have hb : b = D := by simpa using hb
  subst hb
  exact .inl ⟨acc, hD2⟩
/-- the items so far -/
def outs (fb : Nat → Bool) (fd : Nat → Dt) (n : Nat) : List Dt := ((List.range n).filter fb).map fd
theorem outs_zero {fb : Nat → Bool} {fd : Nat → Dt} : outs fb fd 0 = [] := rfl
theorem outs_succ {fb : Nat → Bool} {fd : Nat → Dt} {n : Nat} : outs fb fd (n + 1) = outs fb fd n ++ (if fb n = true then [fd n] else []) := by
  unfold outs
  rw [List.range_succ, List.filter_append, List.map_append]
  by_cases h : fb n = true
  · rw [if_pos h]; simp [h]
  · rw [if_neg h]; simp [h]
theorem outs_le {fb : Nat → Bool} {fd : Nat → Dt} (n : Nat) : (outs fb fd n).length ≤ n := by
  unfold outs
  rw [List.length_map]
  exact Nat.le_trans (List.length_filter_le _ _) (by rw [List.length_range]; exact Nat.le_refl _)
/-- the list at D, as far as it is -/
def LcP (X : Cx) (B : Hp) (D : Addr) (ds : List Dt) (H : Hp) : Prop := ∃ acc, H D = some (.lst acc) ∧ Ex B (cut [D] H) ∧ DaAll X.prog X.w X.K (cut [D] H) acc ds
theorem own_one {H : Hp} {D : Addr} {acc : List V} (h : H D = some (.lst acc)) : ∀ a ∈ [D], OwnAt H a := fun a ha => by
  have ha : a = D := by simpa using ha
  subst ha
  exact .inl ⟨acc, h⟩
theorem LcP.grow {B H H' : Hp} {D : Addr} {ds : List Dt} (p : LcP X B D ds H) (g : Ex H H') : LcP X B D ds H' := by
  obtain ⟨acc, h1, h2, h3⟩ := p
  have c := cut_ex (own_one h1) g
  exact ⟨acc, g.keep _ _ h1 (fun _ z => by cases z), h2.trans c, h3.ex c⟩
theorem LcP.add {B H : Hp} {D : Addr} {ds : List Dt} {d : Dt} {v : V} (p : LcP X B D ds H) (h : Da X.prog X.w X.K (cut [D] H) v d) (hl : ds.length < 200000) : ∃ acc, H D = some (.lst acc) ∧ acc.length < sizeLine ∧ LcP X B D (ds ++ [d]) (upd H D (.lst (acc ++ [v]))) := by
  obtain ⟨acc, h1, h2, h3⟩ := p
  refine ⟨acc, h1, by rw [h3.length, sizeLine_eq]; omega, acc ++ [v], upd_same, ?_, ?_⟩
  · rw [cut_upd (by simp)]; exact h2
  · rw [cut_upd (by simp)]; exact h3.app (.one h)
theorem lc_new {B H : Hp} {σ : L2.St} {H0 : Hp} {D : Addr} {ds : List Dt} {H1 : Hp} (ev : EnvOk X.prog X.w X.K T H0 H σ ε) (g : Ex H H1) (hD : H1 D = none) (p : LcP X H1 D ds B) (i : (immAll ds || noOwn ε) = true) : gN X ds (owns σ ε) H (.ref D) B := by
  obtain ⟨acc, h1, h2, h3⟩ := p
  refine ⟨cut [D] B, D, acc, rfl, g.trans h2, cut_in (by simp), ?_, ?_⟩
  · funext b
    by_cases hb : b = D
    · subst hb; rw [upd_same, h1]
    · rw [upd_ne hb, cut_out (by simpa using hb)]
  · cases q : immAll ds with
    | true =>
      refine h3.imm_cut (fun a ha => ?_) q
      exact (((ev.own a ha).ex g).ex h2)
    | false =>
      rw [q, Bool.false_or] at i
      rw [owns_no i, cut_nil]
      exact h3
theorem dn_lc {wi : TI} {n : Nat} {items : Nat → Dt} {own : List (Str × Nat)} {js : List Nat} {f : Nat → List Sl → List Sl} (fb : Nat → Bool) (fd : Nat → Dt) (Gi : Nat → GP) (hi : DI T X ε tg iter n items wi) (hN : X.N.Nodup) (ok : BlkOk X.N X.env.scope scope own)
    (ht : ∀ i, i < n → BAll X scope (fun Y => DTg T Y tg (items i) js (f i))) (hj : ∀ j ∈ js, j ∈ own.map (·.2)) (hb : ∀ i, i < n → BAll X scope (fun Y => DTs T Y (f i (wipeE ε (own.map (·.2)))) ifs (fb i)))
    (he : ∀ i, i < n → fb i = true → BAll X scope (fun Y => DG T Y (f i (wipeE ε (own.map (·.2)))) elt (Gi i))) (ha : ∀ i, i < n → fb i = true → Adds X (Gi i) (fd i)) (hn : n < 200000) (i : (immAll (outs fb fd n) || noOwn ε) = true)
    (hc : X.calm = true := by rfl) (hs : ∀ x, foldedSetIterable iter X.env x = pure x := by intro _; rfl) : DN T X ε (.ListComp elt [⟨tg, iter, ifs, 0⟩] scope pos) (outs fb fd n) := by
  refine .of (pe_lc hc hN hi.pi ok (pg_any (T := T)) (pts_any (T := T)) (pe_any (T := T)) hs) fun σ H H0 ev => hi.rd σ H H0 ev _ fun J H1 G Y g w hG hY D hD => ?_
  have ev1 := ev.grow g
  refine lc_it w (fun i H' => LcP X H1 D (outs fb fd i) H') ⟨[], upd_same, ?_, .nil⟩ (fun i H' _ p => ?_) ?_ (fun H' p => lc_new ev g hD p i)
  · have : cut [D] (upd H1 D (.lst [])) = H1 := by
      funext b
      by_cases hb : b = D
      · subst hb; rw [cut_in (by simp), hD]
      · rw [cut_out (by simpa using hb), upd_ne hb]
    rw [this]; exact Ex.refl H1
  · obtain ⟨acc, h1, h2, h3⟩ := p
    exact hG (owns σ ε) H' (cut_ex ev1.own (h2.trans cut_sub.ex))
  · intro i x H' H'' hi' p y
    have gx : Ex H1 H' := let ⟨acc, h1, h2, h3⟩ := p; h2.trans cut_sub.ex
    have c1 := cut_ex ev1.own gx
    have ev' := ev1.grow gx
    obtain ⟨g2, hx⟩ := hY (owns σ ε) i H' x H'' hi' c1 ev'.own y
    have ev2 := ev'.grow g2
    obtain ⟨w1, w2⟩ := ev2.wipe (own.map (·.2))
    have p2 := p.grow g2
    refine ⟨items i, js, f i, wipeE ε (own.map (·.2)), _, ht i hi', w1.rebase, hx.ex (cut_sub_of w2).ex, fun σ3 H3 ev3 sb g3 => ⟨wipe_same sb hj, ?_⟩⟩
    have p3 := p2.grow g3
    refine ⟨f i (wipeE ε (own.map (·.2))), fb i, _, hb i hi', ev3, fun H4 g4 => ?_⟩
    have p4 := p3.grow g4
    have ev4 := ev3.grow g4
    show if fb i = true then _ else _
    cases q : fb i with
    | true =>
      rw [if_pos rfl]
      refine ⟨_, Gi i, _, he i hi' q, ev4, fun v H5 hv => ?_⟩
      obtain ⟨acc, a1, a2, a3⟩ := p4
      obtain ⟨g5, h5⟩ := ha i hi' q _ _ _ _ D acc a1 hv
      have p5 := (show LcP X H1 D (outs fb fd i) H4 from ⟨acc, a1, a2, a3⟩).grow g5
      have := p5.add h5 (by have := outs_le (fb := fb) (fd := fd) i; omega)
      rw [outs_succ, q]
      exact this
    | false =>
      rw [if_neg (by simp)]
      rw [outs_succ, q, if_neg (by simp), List.append_nil]
      exact p4
end
end Cp
end
section
set_option maxHeartbeats 4000000
/-! Comparisons of data. -/
namespace Cp
open PySem PySem.Spec PyProof.Rows L2 LamX

mutual
def py : Dt → PyData
  | .non => .none
  | .bl b => .bool b
  | .int i => .int i
  | .str x => .str x
  | .tup ds => .tuple (pys ds)
  | .lst ds => .list (pys ds)
  | .dic _ => .none
  | .obj _ _ => .none
  | .scr _ _ => .none
def pys : List Dt → List PyData
  | [] => []
  | d :: ds => py d :: pys ds
end
mutual
def Dt.pl : Dt → Bool
  | .tup ds => plAll ds
  | .lst ds => plAll ds
  | .dic _ => false
  | .obj _ _ => false
  | .scr _ _ => false
  | _ => true
def plAll : List Dt → Bool
  | [] => true
  | d :: ds => d.pl && plAll ds
end
section
variable {P : Program} {w : World} {K : PySem.W.Frag} {H : Hp}
mutual
theorem Da.dp : ∀ {v : V} {d : Dt}, Da P w K H v d → d.pl = true → Dp K H v (py d)
  | _, _, .non, _ => .non
  | _, _, .bl b, _ => .bl b
  | _, _, .int i, _ => .int i
  | _, _, .str x, _ => .str x
  | _, _, .tup h a, i => .tup (SqT.of h) (DaAll.dp a (by unfold Dt.pl at i; exact i))
  | _, _, .lst h a, i => .lst (SqL.of h) (DaAll.dp a (by unfold Dt.pl at i; exact i))
  | _, _, .dic h a n l s, i => by unfold Dt.pl at i; cases i
  | _, _, .obj h a, i => by unfold Dt.pl at i; cases i
  | _, _, .scr h, i => by unfold Dt.pl at i; cases i
theorem DaAll.dp : ∀ {vs : List V} {ds : List Dt}, DaAll P w K H vs ds → plAll ds = true → DpAll K H vs (pys ds)
  | _, _, .nil, _ => .nil
  | _, _, .cons a b, i => by
    unfold plAll at i
    rw [Bool.and_eq_true] at i
    exact .cons (Da.dp a i.1) (DaAll.dp b i.2)
end
end

/-! ### corners -/
abbrev Co := Tri.Co
def cD (c : Co) : Dt := .tup [.int c.1, .int c.2]
def cL (l : List Co) : List Dt := l.map cD
def cK (c : Co) : NK := .tup [.num c.1, .num c.2]
def pK (p q : Co) : NK := .tup [cK p, cK q]
def pD (p q : Co) : Dt := .tup [cD p, cD q]
theorem imm_c (c : Co) : (cD c).imm = true := rfl
theorem imm_cL (l : List Co) : immAll (cL l) = true := immAll_map imm_c l
theorem pl_c (c : Co) : (cD c).pl = true := rfl
theorem plAll_map {α : Type} {f : α → Dt} (h : ∀ a, (f a).pl = true) : ∀ l : List α, plAll (l.map f) = true
  | [] => rfl
  | a :: l => by rw [List.map_cons, plAll, h a, plAll_map h l]; rfl
theorem pl_cL (l : List Co) : plAll (cL l) = true := plAll_map pl_c l
theorem pys_map : ∀ ds : List Dt, pys ds = ds.map py
  | [] => rfl
  | d :: ds => by rw [List.map_cons, ← pys_map ds]; rfl
theorem eqv_c (a b : Co) : PyData.eqv (py (cD a)) (py (cD b)) = decide (a = b) := by
  show (decide (a.1 = b.1) && (decide (a.2 = b.2) && true)) = _
  rw [Bool.and_true, ← Bool.decide_and]
  congr 1
  rw [eq_iff_iff]
  exact ⟨fun ⟨h1, h2⟩ => Prod.ext h1 h2, fun h => by subst h; exact ⟨rfl, rfl⟩⟩
theorem shaped_c (c : Co) : SeqAt.shaped (py (cD c)) = true := rfl
theorem can_list : ∀ ds : List Dt, (∀ d ∈ ds, (py d).canLay0 = true ∧ (py d).depth ≤ 20) → PyData.canLayAll0 (pys ds) = true ∧ PyData.depthAll (pys ds) ≤ 20
  | [], _ => ⟨rfl, by show 0 ≤ 20; omega⟩
  | d :: ds, h => by
    obtain ⟨h1, h2⟩ := can_list ds fun d hd => h d (List.mem_cons_of_mem _ hd)
    obtain ⟨h3, h4⟩ := h d (List.mem_cons_self ..)
    show PyData.canLayAll0 (py d :: pys ds) = true ∧ PyData.depthAll (py d :: pys ds) ≤ 20
    unfold PyData.canLayAll0 PyData.depthAll
    rw [h1, h3]
    exact ⟨rfl, by omega⟩
theorem shaped_list (ds : List Dt) (h : ∀ d ∈ ds, (py d).canLay0 = true ∧ (py d).depth ≤ 20) : SeqAt.shaped (.list (pys ds)) = true ∧ SeqAt.shaped (.tuple (pys ds)) = true := by
  obtain ⟨h1, h2⟩ := can_list ds h
  unfold SeqAt.shaped
  unfold PyData.canLay0 PyData.depth
  rw [h1]
  simp
  omega
theorem shaped_cL (l : List Co) : SeqAt.shaped (.list (pys (cL l))) = true ∧ SeqAt.shaped (.tuple (pys (cL l))) = true := shaped_list _ fun d hd => by
  obtain ⟨c, _, rfl⟩ := List.mem_map.mp hd
  exact ⟨rfl, by show 1 ≤ 20; omega⟩
theorem any_c (l : List Co) (c : Co) : ((pys (cL l)).any fun z => PyData.eqv z (py (cD c))) = decide (c ∈ l) := by
  unfold cL
  rw [pys_map, List.map_map]
  induction l with
  | nil => simp
  | cons a l ih =>
    rw [List.map_cons, List.any_cons, ih]
    show (PyData.eqv (py (cD a)) (py (cD c)) || decide (c ∈ l)) = _
    rw [eqv_c, ← Bool.decide_or]
    congr 1
    rw [eq_iff_iff, List.mem_cons]
    exact ⟨fun h => h.elim (fun e => .inl e.symm) .inr, fun h => h.elim (fun e => .inl e.symm) .inr⟩

/-! ### rules -/
section
variable {X : Cx} {d1 d2 : Dt} {ds : List Dt}
theorem c_eqP (hu : X.A.units + 64 < cLine) (h1 : d1.pl = true) (h2 : d2.pl = true) (s1 : SeqAt.shaped (py d1) = true) (s2 : SeqAt.shaped (py d2) = true) : CmpD X .Eq d1 d2 (PyData.eqv (py d1) (py d2)) :=
  ⟨_, op_eqD hu, fun x y H Q hx hy k => ⟨_, _, hx.dp h1, hy.dp h2, s1, s2, k H (Ex.refl H)⟩⟩
theorem c_neP (hu : X.A.units + 64 < cLine) (h1 : d1.pl = true) (h2 : d2.pl = true) (s1 : SeqAt.shaped (py d1) = true) (s2 : SeqAt.shaped (py d2) = true) : CmpD X .NotEq d1 d2 (!PyData.eqv (py d1) (py d2)) :=
  ⟨_, op_neD hu, fun x y H Q hx hy k => ⟨_, _, hx.dp h1, hy.dp h2, s1, s2, k H (Ex.refl H)⟩⟩
theorem c_inLP (hu : X.A.units + 65 < cLine) (h1 : d1.pl = true) (h2 : plAll ds = true) (s1 : SeqAt.shaped (py d1) = true) (s2 : SeqAt.shaped (.list (pys ds)) = true) : CmpD X .In d1 (.lst ds) ((pys ds).any fun z => PyData.eqv z (py d1)) :=
  ⟨_, op_inD hu, fun x y H Q hx hy k => ⟨_, _, hx.dp h1, hy.dp (d := .lst ds) h2, s1, s2, k H (Ex.refl H)⟩⟩
theorem c_ninLP (hu : X.A.units + 65 < cLine) (h1 : d1.pl = true) (h2 : plAll ds = true) (s1 : SeqAt.shaped (py d1) = true) (s2 : SeqAt.shaped (.list (pys ds)) = true) : CmpD X .NotIn d1 (.lst ds) (!(pys ds).any fun z => PyData.eqv z (py d1)) :=
  ⟨_, op_notInD hu, fun x y H Q hx hy k => ⟨_, _, hx.dp h1, hy.dp (d := .lst ds) h2, s1, s2, k H (Ex.refl H)⟩⟩
def rInT (K : PySem.W.Frag) : R2 := fun x y H Q => ∃ d ds, Dp K H x d ∧ Dp K H y (.tuple ds) ∧ SeqAt.shaped d = true ∧ SeqAt.shaped (.tuple ds) = true ∧ Q (.bl (ds.any fun z => PyData.eqv z d)) H
def rNotInT (K : PySem.W.Frag) : R2 := fun x y H Q => ∃ d ds, Dp K H x d ∧ Dp K H y (.tuple ds) ∧ SeqAt.shaped d = true ∧ SeqAt.shaped (.tuple ds) = true ∧ Q (.bl (!ds.any fun z => PyData.eqv z d)) H
theorem op_inT (hu : X.A.units + 65 < cLine) : OpR X (compareOp .In) (rInT X.K) := by
  intro pins s σ H x y v u Q I rx ry h
  obtain ⟨d, ds, hd, he, sd, se, q⟩ := h
  obtain ⟨as, r1⟩ := Dp.reads I d x v hd rx
  obtain ⟨bs, r2⟩ := Dp.reads I (.tuple ds) y u he ry
  exact SeqAt.in_tuple_reads r2 r1 (SeqAt.canLay_of_shaped (d := .tuple ds) se) (SeqAt.canLay_of_shaped sd) (PyProof.Rows.room_in_shaped sd hu) ⟨.bl _, H, I, rfl, q⟩
theorem op_notInT (hu : X.A.units + 65 < cLine) : OpR X (compareOp .NotIn) (rNotInT X.K) := by
  intro pins s σ H x y v u Q I rx ry h
  obtain ⟨d, ds, hd, he, sd, se, q⟩ := h
  obtain ⟨as, r1⟩ := Dp.reads I d x v hd rx
  obtain ⟨bs, r2⟩ := Dp.reads I (.tuple ds) y u he ry
  exact SeqAt.notIn_tuple_reads r2 r1 (SeqAt.canLay_of_shaped (d := .tuple ds) se) (SeqAt.canLay_of_shaped sd) (PyProof.Rows.room_in_shaped sd hu) ⟨.bl _, H, I, rfl, q⟩
theorem c_inTP (hu : X.A.units + 65 < cLine) (h1 : d1.pl = true) (h2 : plAll ds = true) (s1 : SeqAt.shaped (py d1) = true) (s2 : SeqAt.shaped (.tuple (pys ds)) = true) : CmpD X .In d1 (.tup ds) ((pys ds).any fun z => PyData.eqv z (py d1)) :=
  ⟨_, op_inT hu, fun x y H Q hx hy k => ⟨_, _, hx.dp h1, hy.dp (d := .tup ds) h2, s1, s2, k H (Ex.refl H)⟩⟩
theorem c_ninTP (hu : X.A.units + 65 < cLine) (h1 : d1.pl = true) (h2 : plAll ds = true) (s1 : SeqAt.shaped (py d1) = true) (s2 : SeqAt.shaped (.tuple (pys ds)) = true) : CmpD X .NotIn d1 (.tup ds) (!(pys ds).any fun z => PyData.eqv z (py d1)) :=
  ⟨_, op_notInT hu, fun x y H Q hx hy k => ⟨_, _, hx.dp h1, hy.dp (d := .tup ds) h2, s1, s2, k H (Ex.refl H)⟩⟩
/-- corners -/
theorem c_eqC {a b : Co} (hu : X.A.units + 64 < cLine) : CmpD X .Eq (cD a) (cD b) (decide (a = b)) := by rw [← eqv_c]; exact c_eqP hu rfl rfl rfl rfl
theorem c_neC {a b : Co} (hu : X.A.units + 64 < cLine) : CmpD X .NotEq (cD a) (cD b) (!decide (a = b)) := by rw [← eqv_c]; exact c_neP hu rfl rfl rfl rfl
theorem c_inL {a : Co} {l : List Co} (hu : X.A.units + 65 < cLine) : CmpD X .In (cD a) (.lst (cL l)) (decide (a ∈ l)) := by rw [← any_c]; exact c_inLP hu rfl (pl_cL l) rfl (shaped_cL l).1
theorem c_ninL {a : Co} {l : List Co} (hu : X.A.units + 65 < cLine) : CmpD X .NotIn (cD a) (.lst (cL l)) (!decide (a ∈ l)) := by rw [← any_c]; exact c_ninLP hu rfl (pl_cL l) rfl (shaped_cL l).1
theorem c_inT {a : Co} {l : List Co} (hu : X.A.units + 65 < cLine) : CmpD X .In (cD a) (.tup (cL l)) (decide (a ∈ l)) := by rw [← any_c]; exact c_inTP hu rfl (pl_cL l) rfl (shaped_cL l).2
theorem lex_lt (a b : Co) : HT.lexLt [a.1, a.2] [b.1, b.2] = decide (Tri.lt a b) := by
  rw [HT.lexLt_cons, HT.lexLt_cons, HT.lexLt_nil_nil]
  by_cases h : a.1 = b.1
  · rw [if_pos h]
    by_cases h2 : a.2 = b.2
    · rw [if_pos h2]; symm; rw [decide_eq_false_iff_not]; unfold Tri.lt; omega
    · rw [if_neg h2, decide_eq_decide]; unfold Tri.lt; omega
  · rw [if_neg h, decide_eq_decide]; unfold Tri.lt; omega
theorem c_ltC {a b : Co} (hu : X.A.units < cLine) : CmpD X .Lt (cD a) (cD b) (decide (Tri.lt a b)) := ⟨_, op_ltT hu, fun x y H Q hx hy k => by
  cases hx with
  | @tup p xs _ h1 a1 =>
    cases hy with
    | @tup q ys _ h2 a2 =>
      cases a1 with
      | cons x1 a1 => cases a1 with
        | cons x2 a1 => cases a1; cases a2 with
          | cons y1 a2 => cases a2 with
            | cons y2 a2 =>
              cases a2; cases x1; cases x2; cases y1; cases y2
              exact ⟨p, q, [a.1, a.2], [b.1, b.2], rfl, rfl, SqT.of h1, SqT.of h2, by rw [lex_lt]; exact k H (Ex.refl H)⟩⟩
end
end Cp
end
section
set_option maxHeartbeats 4000000
/-! sorted of data. -/
namespace Cp
open PySem PySem.Spec PyProof.Rows L2 LamX PySem.W

def dle (a b : Dt) : Bool := dataLe false py a b
structure SortOk (ds : List Dt) : Prop where
  pl : plAll ds = true
  al : AllAlike (ds.map py)
  st : Sortable (ds.map py)
  dp : ∀ d ∈ ds, (py d).depth ≤ 20
  len : ds.length ≤ 100000
section
variable {P : Program} {w : World} {K : PySem.W.Frag} {H : Hp}
def RVD (P : Program) (w : World) (K : PySem.W.Frag) (H : Hp) : Value → V × Dt → Prop := fun u p => RelV p.1 u ∧ Da P w K H p.1 p.2
theorem rvd_zip : ∀ {vs : List V} {us : List Value} {ds : List Dt}, Vals vs us → DaAll P w K H vs ds → ∃ ps : List (V × Dt), EachIs (RVD P w K H) us ps ∧ ps.map (·.1) = vs ∧ ps.map (·.2) = ds
  | [], _, _, r, d => by
    cases r; cases d
    exact ⟨[], .nil, rfl, rfl⟩
  | v :: vs, _, _, r, d => by
    cases r with
    | cons r1 r2 =>
      cases d with
      | cons d1 d2 =>
        obtain ⟨ps, h1, h2, h3⟩ := rvd_zip r2 d2
        exact ⟨(v, _) :: ps, .cons ⟨r1, d1⟩ h1, by rw [List.map_cons, h2], by rw [List.map_cons, h3]⟩
theorem rvd_back : ∀ {us : List Value} {ps : List (V × Dt)}, EachIs (RVD P w K H) us ps → Vals (ps.map (·.1)) us ∧ DaAll P w K H (ps.map (·.1)) (ps.map (·.2))
  | _, _, .nil => ⟨.nil, .nil⟩
  | _, _, .cons ⟨h1, h2⟩ t => by
    obtain ⟨q1, q2⟩ := rvd_back t
    exact ⟨.cons h1 q1, .cons h2 q2⟩
theorem plAll_mem {ds : List Dt} {d : Dt} (h : plAll ds = true) (m : d ∈ ds) : d.pl = true := by
  induction ds with
  | nil => cases m
  | cons x xs ih =>
    unfold plAll at h
    rw [Bool.and_eq_true] at h
    rcases List.mem_cons.mp m with e | m
    · rw [e]; exact h.1
    · exact ih h.2 m
theorem rvd_reads {X : Cx} {pins : List (Addr × Obj)} {σ : L2.St} {H : Hp} {s : Shared} (I : Inv X pins σ H s) : ∀ {us : List Value} {ps : List (V × Dt)}, EachIs (RVD X.prog X.w X.K H) us ps → plAll (ps.map (·.2)) = true → EachIs (fun v b => ∃ as, Reads s.heap v (py b.2) as) us ps
  | _, _, .nil, _ => .nil
  | _, _, .cons (b := b) ⟨h1, h2⟩ t, hp => by
    rw [List.map_cons, plAll, Bool.and_eq_true] at hp
    exact .cons (Dp.reads I _ _ _ (h2.dp hp.1) h1) (rvd_reads I t hp.2)
theorem map_py (ps : List (V × Dt)) {ds : List Dt} (h : ps.map (·.2) = ds) : (ps.map fun p => py p.2) = ds.map py := by rw [← h, List.map_map]; rfl
theorem msort_map (ps : List (V × Dt)) : (ps.mergeSort (dataLe false fun p => py p.2)).map (·.2) = (ps.map (·.2)).mergeSort dle :=
  List.map_mergeSort fun a _ b _ => rfl
theorem msort_len (ds : List Dt) : (ds.mergeSort dle).length = ds.length := List.length_mergeSort ds
theorem immAll_of {ds : List Dt} (h : ∀ d ∈ ds, d.imm = true) : immAll ds = true := by
  induction ds with
  | nil => rfl
  | cons a l ih => rw [immAll, h a (by simp), ih fun d hd => h d (List.mem_cons_of_mem _ hd)]; rfl
theorem immAll_perm {ds es : List Dt} (p : ds.Perm es) (h : immAll es = true) : immAll ds = true := immAll_of fun d hd => immAll_mem h (p.mem_iff.mp hd)
end

section
variable {X : Cx} {pins : List (Addr × Obj)} {σ : L2.St} {H : Hp} {s : Shared}
/-- what sorted gives -/
def rSortX (X : Cx) : List V → Hp → VK → Prop := fun xs H Q => ∃ (a : Addr) (ds : List Dt), xs = [.ref a] ∧ SortOk ds ∧
  ((Da X.prog X.w X.K H (.ref a) (.lst ds)) ∨ ∃ kvs : List (NK × Dt), Da X.prog X.w X.K H (.ref a) (.dic kvs) ∧ ds = kvs.map fun kv => kd kv.1) ∧
  ∀ p vs, H p = none → DaAll X.prog X.w X.K H vs (ds.mergeSort dle) → Q (.ref p) (upd H p (.lst vs))
theorem sort_list {a : Addr} {ds : List Dt} {Q : VK} (hu : X.A.units + 64 < cLine) (I : Inv X pins σ H s) (ok : SortOk ds) (hd : Da X.prog X.w X.K H (.ref a) (.lst ds)) (q : ∀ p vs, H p = none → DaAll X.prog X.w X.K H vs (ds.mergeSort dle) → Q (.ref p) (upd H p (.lst vs))) :
    wpAny (model X.prog X.w) X.A (call (.builtin "sorted") [.ref a]) (EP X pins σ Q) X.xe s := by
  cases hd with
  | @lst _ xs _ h1 a1 =>
    obtain ⟨its, rv, hl, _⟩ := I.list (SqL.of h1)
    obtain ⟨ps, e1, e2, e3⟩ := rvd_zip rv a1
    have er := rvd_reads I e1 (by rw [e3]; exact ok.pl)
    have hal : AllAlike (ps.map fun p => py p.2) := by rw [map_py ps e3]; exact ok.al
    have hst : Sortable (ps.map fun p => py p.2) := by rw [map_py ps e3]; exact ok.st
    have hlen : ps.length = ds.length := by rw [← e3, List.length_map]
    refine sorted_data (enc := fun p : V × Dt => py p.2) hl.isList e1 er hal hst (by rw [hlen, sizeLine_eq]; have := ok.len; omega) (fun b hb => ?_) fun out ho eo => ?_
    · have := ok.dp b.2 (by rw [← e3]; exact List.mem_map_of_mem hb)
      omega
    · obtain ⟨b1, b2⟩ := rvd_back eo
      obtain ⟨ep, he'⟩ := PyProof.Rows.sortedAll_at s.heap its out.toArray
      rw [msort_map, e3] at b2
      refine ⟨.ref _, upd H (s.heap.objs.size + 1) (.lst _), I.laid (t' := s.toks) (fun _ _ => PyProof.Rows.sortedAll_old) (Nat.le_succ _) ⟨?_, out, ep, b1, he'⟩, rfl, q _ _ (I.hok.fresh (Nat.le_succ _)) b2⟩
      rw [b2.length, msort_len, sizeLine_eq]; have := ok.len; omega
theorem vals_keys {ys : List (NK × Addr × Value)} {us : List Value} (hl : us.length = ys.length) (h : ∀ (j : Nat) (u : Value), us[j]? = some u → ∃ y, ys[j]? = some y ∧ u = .ref y.2.1) : Vals (ys.map fun y => V.ref y.2.1) us := by
  induction ys generalizing us with
  | nil =>
    cases us with
    | nil => exact .nil
    | cons _ _ => simp at hl
  | cons y ys ih =>
    cases us with
    | nil => simp at hl
    | cons u us =>
      obtain ⟨y', e1, e2⟩ := h 0 u rfl
      simp at e1
      subst e1 e2
      exact .cons rfl (ih (by simpa using hl) fun j u e => by
        obtain ⟨y', q1, q2⟩ := h (j + 1) u (by simpa using e)
        exact ⟨y', by simpa using q1, q2⟩)
theorem da_keys {P : Program} {w : World} {K : PySem.W.Frag} {es : List (NK × Addr × V)} {kvs : List (NK × Dt)} {ys : List (NK × Addr × Value)} (r : DaKvs P w K H es kvs) (f : Paired FE es ys) : DaAll P w K H (ys.map fun y => V.ref y.2.1) (kvs.map fun kv => kd kv.1) := by
  match r, f with
  | .nil, .nil => exact .nil
  | .cons h1 h2 h3 t, .cons g tt =>
    obtain ⟨g1, g2, g3⟩ := g
    rw [List.map_cons, List.map_cons, ← g2]
    exact .cons h1 (da_keys t tt)
theorem sort_dict {a : Addr} {kvs : List (NK × Dt)} {Q : VK} (hc : X.calm = true) (hu : X.A.units + 64 < cLine) (I : Inv X pins σ H s) (ok : SortOk (kvs.map fun kv => kd kv.1)) (hd : Da X.prog X.w X.K H (.ref a) (.dic kvs))
    (q : ∀ p vs, H p = none → DaAll X.prog X.w X.K H vs ((kvs.map fun kv => kd kv.1).mergeSort dle) → Q (.ref p) (upd H p (.lst vs))) :
    wpAny (model X.prog X.w) X.A (call (.builtin "sorted") [.ref a]) (EP X pins σ Q) X.xe s := by
  cases hd with
  | @dic _ es _ h1 a1 n l sm =>
    obtain ⟨ys, f, dd⟩ := do_of I.hok h1 a1 n
    obtain ⟨as, ep, raw, hsz, hkeys⟩ := dd.raw
    have hyl : ys.length = kvs.length := by rw [← Paired.length f, kvs_length a1]
    have hsz' : as.size ≤ sizeLine := by rw [hsz, ← Paired.length f]; exact l
    refine Calls.call_function_entry PyProof.Rows.kind_sorted PyProof.Rows.plain_sorted PyProof.Rows.entry_sorted (PyProof.Rows.args_sorted1 _) ?_
    unfold Builtin.«sorted»
    refine wpAny_bind (m := checkCount "sorted" 1 1 _) (wpAny_pure ?_)
    refine wpAny_bind (PySem.W.kdu_collect (A := X.A.in1) (PySem.KdlSrc.rawDict (es := as) (ep := ep) sm) (I.ok.hd hc) raw hsz' fun h' tk acc hk hacc => ?_)
    have hal : acc.toList.length = ys.length := by rw [Array.length_toList, hacc.1, hsz]
    have hV : Vals (ys.map fun y => V.ref y.2.1) acc.toList := vals_keys hal fun j u e => by
      obtain ⟨hi, e2⟩ := hacc.2 j u (by rw [← Array.getElem?_toList]; exact e)
      obtain ⟨y, g1, g2, g3, g4⟩ := hkeys j hi
      exact ⟨y, g1, by rw [e2, g2]⟩
    have I1 : Inv X pins σ H { s with heap := h', toks := tk } := I.kept hk
    obtain ⟨ps, e1, e2, e3⟩ := rvd_zip hV (da_keys a1 f)
    have er := rvd_reads I1 e1 (by rw [e3]; exact ok.pl)
    have hAl : AllAlike (ps.map fun p => py p.2) := by rw [map_py ps e3]; exact ok.al
    have hst : Sortable (ps.map fun p => py p.2) := by rw [map_py ps e3]; exact ok.st
    have hlen : ps.length = kvs.length := by rw [← List.length_map (f := fun kv : NK × Dt => kd kv.1) (as := kvs), ← e3, List.length_map]
    have h20 : acc.toList.length ≤ sizeLine := by rw [hal, ← hsz]; exact hsz'
    refine wpAny_bind (wpAny_newList ?_ h20)
    have hoL : (h'.push (seqObj "list" acc.toList.toArray 0)).get? h'.objs.size = some (seqObj "list" acc.toList.toArray 0) := Heap.get?_push_size _ rfl
    show wpAny _ _ _ _ _ { s with heap := h'.push (seqObj "list" acc.toList.toArray 0), toks := tk }
    have er' : EachIs (fun v (b : V × Dt) => ∃ as, Reads (sortingHeap (h'.push (seqObj "list" acc.toList.toArray 0)) h'.objs.size acc.toList) v (py b.2) as) acc.toList ps := er.mono fun _ _ ⟨as, r⟩ => ⟨as, PyProof.Rows.Reads.keeps (fun b o e => sortingHeap_old (Nat.ne_of_lt (Heap.lt_size e)) (Heap.get?_push_of_some _ e)) r⟩
    have hS := SortsAt.data (prog := X.prog) (w := X.w) (A := X.A.in1.in1) (s := { s with heap := sortingHeap (h'.push (seqObj "list" acc.toList.toArray 0)) h'.objs.size acc.toList, toks := tk })
      (each_map (R := fun v d => ∃ as, Reads (sortingHeap (h'.push (seqObj "list" acc.toList.toArray 0)) h'.objs.size acc.toList) v d as) (fun p : V × Dt => py p.2) er') hAl hst
      (fun d hd => by
        have hd : d ∈ (kvs.map fun kv => kd kv.1).map py := by rw [← map_py ps e3]; exact hd
        obtain ⟨x, hx, rfl⟩ := List.mem_map.mp hd
        have := ok.dp x hx
        show X.A.units + 2 + _ < _
        omega)
    refine wpAny_bind (wpAny_holding (wpAny_call_entry PyProof.Rows.slot_list_sort ⟨_, hoL, rfl⟩ PyProof.Rows.entry_list_sort
      (list_sort_vals (s := { s with heap := h'.push (seqObj "list" acc.toList.toArray 0), toks := tk }) hoL hS h20 ⟨_, rfl, ?_⟩) (PyProof.Rows.args_list_sort _)))
    have hE := sortVals_data (h' := sortingHeap (h'.push (seqObj "list" acc.toList.toArray 0)) h'.objs.size acc.toList) (enc := fun p : V × Dt => py p.2) false e1 er' hAl
    obtain ⟨b1, b2⟩ := rvd_back hE
    obtain ⟨e', he'⟩ := PyProof.Rows.sortedHeap_at (vs := acc.toList) (out := (sortVals (dataKind (sortingHeap (h'.push (seqObj "list" acc.toList.toArray 0)) h'.objs.size acc.toList) (ps.map fun p => py p.2)) false acc.toList acc.toList).toArray) hoL
    rw [msort_map, e3] at b2
    refine wpAny_pure ⟨_, rfl, .ref h'.objs.size, upd H h'.objs.size (.lst _), I1.laid (t' := tk) (fun b u e => ?_) (Nat.le_refl _) ⟨?_, _, e', b1, he'⟩, rfl, q _ _ (I1.hok.fresh (Nat.le_refl _)) b2⟩
    · have hb : b < h'.objs.size := Heap.lt_size e
      refine (PyProof.Rows.sortedHeap_old (Nat.ne_of_lt hb) (by rw [size_push']; exact Nat.lt_succ_of_lt hb)).trans ?_
      exact Heap.get?_push_of_some _ e
    · have hz := hal
      rw [b2.length, msort_len, sizeLine_eq]; have := ok.len; omega
theorem call_sortX (hc : X.calm = true) (hu : X.A.units + 64 < cLine) : CallR X (.builtin "sorted") (rSortX X) := by
  intro pins s σ H xs us Q I r ⟨a, ds, e, ok, h, q⟩
  subst e
  obtain ⟨u, eu, rx⟩ := vals1 r
  subst eu
  cases rx
  rcases h with h | ⟨kvs, h, e⟩
  · exact sort_list hu I ok h q
  · subst e
    exact sort_dict hc hu I ok h q
end
section
variable {T : List (Addr × Str)} {X : Cx} {ε : List Sl} {a : Expr} {pos p : Pos} {ds : List Dt} {kvs : List (NK × Dt)}
theorem dn_sortedL (hu : X.A.units + 64 < cLine) (hm : X.mg "sorted" = none) (ha : DE T X ε a (.lst ds)) (ok : SortOk ds) (i : (immAll ds || noOwn ε) = true) (hc : X.calm = true := by rfl) (hg : Gl X "sorted" := by rfl)
    (he : starEach [a] X.env = (false, eval a X.env) :: starEach [] X.env := by rfl) (hpl : (backTo pos (starEach [] X.env)).any (·.1) = false := by rfl) : DN T X ε (.Call (.Name "sorted" p) [a] [] pos) (ds.mergeSort dle) :=
  .of (pe_callB (call_sortX hc hu) hg hm (by decide +kernel) (pa_cons ha.pe pa_nil he) (by decide) (by decide) he hpl) fun σ H H0 ev => arg1 ev fun x H1 g hx => by
    have hx' := hx
    cases hx' with
    | @lst q xs _ h1 a1 =>
      refine ⟨q, ds, rfl, ok, .inl hx, fun p vs hp hvs => newLN ev g hvs ?_ p hp⟩
      rw [Bool.or_eq_true] at i ⊢
      exact i.imp (immAll_perm (List.mergeSort_perm ds dle)) id
theorem kds_map (kvs : List (NK × Dt)) : immAll (kvs.map fun kv => kd kv.1) = true := immAll_of fun d hd => by
  obtain ⟨x, _, rfl⟩ := List.mem_map.mp hd
  exact kd_imm x.1
theorem dn_sortedD (hu : X.A.units + 64 < cLine) (hm : X.mg "sorted" = none) (ha : DE T X ε a (.dic kvs)) (ok : SortOk (kvs.map fun kv => kd kv.1)) (hc : X.calm = true := by rfl) (hg : Gl X "sorted" := by rfl)
    (he : starEach [a] X.env = (false, eval a X.env) :: starEach [] X.env := by rfl) (hpl : (backTo pos (starEach [] X.env)).any (·.1) = false := by rfl) : DN T X ε (.Call (.Name "sorted" p) [a] [] pos) ((kvs.map fun kv => kd kv.1).mergeSort dle) :=
  .of (pe_callB (call_sortX hc hu) hg hm (by decide +kernel) (pa_cons ha.pe pa_nil he) (by decide) (by decide) he hpl) fun σ H H0 ev => arg1 ev fun x H1 g hx => by
    have hx' := hx
    cases hx' with
    | dic _ _ _ _ _ =>
      exact ⟨_, _, rfl, ok, .inr ⟨kvs, hx, rfl⟩, fun p vs hp hvs => newL ev g hvs (immAll_perm (List.mergeSort_perm _ dle) (kds_map kvs)) p hp⟩
end
end Cp
end
section
set_option maxHeartbeats 4000000
/-! zip of a list and a text; dict comprehensions; sorted sets. -/
namespace Cp
open PySem PySem.Spec PyProof.Rows L2 LamX

/-- the list at a and the text x, in new pairs -/
def ItzS (K : PySem.W.Frag) (a : Addr) (x : Str) : It :=
  ⟨fun i H => ∃ (xs : List V) (v : V), SqL K H a xs ∧ xs[i]? = some v ∧ i < x.cps.size,
    fun i H v H' => ∃ T y c, v = .ref T ∧ H T = none ∧ H' = upd H T (.tup [y, .str ⟨#[c]⟩]) ∧ (∀ xs, SqL K H a xs → xs[i]? = some y) ∧ x.cps[i]? = some c,
    fun i H => ∃ xs : List V, SqL K H a xs ∧ i = min xs.length x.cps.size⟩
theorem zipS_sep (n a : Nat) (h : a < n) : ZipSep2 (n + 4) (n + 2) (n + 3) n (n + 1) [n, a] [n + 1] :=
  ⟨(fun e => absurd (show (n + 2 : Nat) = n + 4 from e) (by omega)),
    (fun e => absurd (show (n + 3 : Nat) = n + 4 from e) (by omega)),
    (fun e => absurd (show (n + 2 : Nat) = n + 3 from e) (by omega)),
    (fun e => absurd (show (n + 2 : Nat) = n from e) (by omega)),
    List.mem_cons_self ..,
    (fun e => (List.mem_cons.mp e).elim (fun e => absurd (show (n + 4 : Nat) = n from e) (by omega)) fun e => absurd (show (n + 4 : Nat) = a from List.mem_singleton.mp e) (by omega)),
    (fun e => (List.mem_cons.mp e).elim (fun e => absurd (show (n + 3 : Nat) = n from e) (by omega)) fun e => absurd (show (n + 3 : Nat) = a from List.mem_singleton.mp e) (by omega)),
    (fun e => absurd (show (n + 2 : Nat) = n + 1 from e) (by omega)),
    List.mem_cons_self ..,
    (fun e => absurd (show (n + 4 : Nat) = n + 1 from List.mem_singleton.mp e) (by omega)),
    (fun e => absurd (show (n + 3 : Nat) = n + 1 from List.mem_singleton.mp e) (by omega)),
    (fun e => absurd (show (n : Nat) = n + 1 from List.mem_singleton.mp e) (by omega)),
    (fun e => (List.mem_cons.mp e).elim (fun e => absurd (show (n + 1 : Nat) = n from e) (by omega)) fun e => absurd (show (n + 1 : Nat) = a from List.mem_singleton.mp e) (by omega))⟩
theorem zipS_le (n c : Nat) (h : c = n + 4 ∨ c = n + 2 ∨ c = n + 3 ∨ c = n ∨ c = n + 1) : n ≤ c := by
  rcases h with e | e | e | e | e <;> omega
theorem turn_zipS {P : Program} {w : World} {K : PySem.W.Frag} {elts : List Expr} {kk : Nat} {tpos : Pos} {a z TI TO i1 i2 : Addr} {x : Str} {t : Tok} (S : ZipSep2 z TI TO i1 i2 [i1, a] [i2]) (hne : a ≠ i1) :
    Turn P w K (.Tuple elts kk tpos) (ItzS K a x) [z, TI, TO, i1, i2] z (fun i h => IsZip h z TI TO .none ∧ IsTupOf2 h TI (.ref i1) (.ref i2) ∧ (∃ a1 a2, IsTupOf2 h TO a1 a2) ∧ h.IsListIter i1 a i ∧ h.IsStrIter i2 (strIterType x) x t i) where
  mem := by simp
  obj := fun i h st c hc => by
    obtain ⟨hz, hTI, ⟨x, y, hTO⟩, ⟨o1, e1, _, d1⟩, ⟨o2, e2, _, d2⟩⟩ := st
    have e' : c = z ∨ c = TI ∨ c = TO ∨ c = i1 ∨ c = i2 := by simpa using hc
    rcases e' with q | q | q | q | q
    · rw [q]; exact ⟨_, hz, fun v q => nomatch q⟩
    · rw [q]; exact ⟨_, hTI, fun v q => nomatch q⟩
    · rw [q]; exact ⟨_, hTO, fun v q => nomatch q⟩
    · rw [q]; exact ⟨o1, e1, fun v q => by rw [d1] at q; cases q⟩
    · rw [q]; exact ⟨o2, e2, fun v q => by rw [d2] at q; cases q⟩
  keep := fun i h h' st k => by
    obtain ⟨hz, hTI, ⟨x, y, hTO⟩, ⟨o1, e1, c1⟩, ⟨o2, e2, c2⟩⟩ := st
    exact ⟨k z (by simp) _ hz, k TI (by simp) _ hTI, ⟨x, y, k TO (by simp) _ hTO⟩, ⟨o1, k i1 (by simp) _ e1, c1⟩, ⟨o2, k i2 (by simp) _ e2, c2⟩⟩
  item := by
    intro X hP hw hK hc i pins s σ H E I hf st hg
    subst hP hw hK
    obtain ⟨hz, hTI, hTO, h1, h2⟩ := st
    obtain ⟨xs, v, hqx, hx, hi⟩ := hg
    obtain ⟨its, rv, p, _⟩ := I.list hqx
    obtain ⟨u, hu, ru⟩ := rv.get hx
    have hil : i < its.toArray.size := by
      have := (List.getElem?_eq_some_iff.mp hx).1
      rw [List.size_toArray, ← rv.length]; exact this
    have G := GoesN.zip2 (elts := elts) (x1 := kk) (pos := tpos) S (Draws.list (prog := X.prog) (w := X.w) (A := X.A.in1) (I.ok.hd hc) i1 a hne its.toArray) (Draws.text (prog := X.prog) (w := X.w) (A := X.A.in1) (I.ok.hd hc) i2 x t)
    refine G.goes i s _ E (Nat.lt_min.mpr ⟨hil, hi⟩) ⟨hz, hTI, hTO, ⟨h1, p.isList⟩, h2⟩ fun v' h' tk hY st' hk _ => ?_
    obtain ⟨T, y1, y2, ev, hT, hy1, ⟨c, uc, hc2, e2⟩, isT⟩ := hY
    subst ev e2
    have ey : y1 = u := by
      have hu' : its.toArray[i]? = some u := by simpa using hu
      rw [hu'] at hy1; cases hy1; rfl
    subst ey
    have hn : H T = none := I.hok.fresh hT
    have new : ObjOk X.prog X.w (upd H T (.tup [v, .str ⟨#[c]⟩])) h' T (.tup [v, .str ⟨#[c]⟩]) := ⟨by show 2 ≤ sizeLine; decide, [y1, .str ⟨#[c]⟩ uc], .cons ru (.cons ⟨uc, rfl⟩ .nil), isT⟩
    have hf' : ∀ b ∈ [z, TO, i1, i2], FpOk X pins H b := fun b hb => hf b (by
      have : b = z ∨ b = TO ∨ b = i1 ∨ b = i2 := by simpa using hb
      simp; rcases this with q | q | q | q <;> simp [q])
    have I1 : Inv X pins σ (upd H T (.tup [v, .str ⟨#[c]⟩])) { s with heap := h', toks := tk } := I.turnedNew (t' := tk) hk hf' hT new
    obtain ⟨z1, z2, z3, z4, z5⟩ := st'
    refine ⟨.ref T, _, I1, rfl, ⟨T, v, c, rfl, hn, rfl, fun l hl => by rw [I.list_inj hl hqx]; exact hx, hc2⟩, ⟨z1, z2, z3, z4.1, z5⟩, fun b hb => ?_⟩
    have hb' := hf b hb
    have hlt : b < s.heap.objs.size := by
      have e' : b = z ∨ b = TI ∨ b = TO ∨ b = i1 ∨ b = i2 := by simpa using hb
      rcases e' with q | q | q | q | q
      · rw [q]; exact Heap.lt_size hz
      · rw [q]; exact Heap.lt_size hTI
      · rw [q]; obtain ⟨_, _, e⟩ := hTO; exact Heap.lt_size e
      · rw [q]; obtain ⟨_, e, _⟩ := h1; exact Heap.lt_size e
      · rw [q]; obtain ⟨_, e, _⟩ := h2; exact Heap.lt_size e
    rw [upd_ne (Nat.ne_of_lt (Nat.lt_of_lt_of_le hlt hT))]
    exact hb'.1
  done := by
    intro X hP hw hK hc i pins s σ H E I hf st hg
    subst hP hw hK
    obtain ⟨hz, hTI, hTO, h1, h2⟩ := st
    obtain ⟨xs, hqx, hi⟩ := hg
    obtain ⟨its, rv, p, _⟩ := I.list hqx
    have G := GoesN.zip2 (elts := elts) (x1 := kk) (pos := tpos) S (Draws.list (prog := X.prog) (w := X.w) (A := X.A.in1) (I.ok.hd hc) i1 a hne its.toArray) (Draws.text (prog := X.prog) (w := X.w) (A := X.A.in1) (I.ok.hd hc) i2 x t)
    have hi' : min its.toArray.size x.cps.size = i := by rw [hi, List.size_toArray, rv.length]
    rw [hi'] at G
    refine G.stops s _ E ⟨hz, hTI, hTO, ⟨h1, p.isList⟩, h2⟩ fun h' tk hk _ => ?_
    have hf' : ∀ b ∈ [z, TO, i1, i2], FpOk X pins H b := fun b hb => hf b (by
      have : b = z ∨ b = TO ∨ b = i1 ∨ b = i2 := by simpa using hb
      simp; rcases this with q | q | q | q <;> simp [q])
    exact I.turnedL (t' := tk) hk hf'
  self := fun A i s Q E st h => wpAny_pyIter_zip st.1 h
def iZipS (K : PySem.W.Frag) (ta : TA) : TI := fun σ H R => ta σ H fun vs H1 => ∃ a x xs, vs = [.ref a, .str x] ∧ SqL K H1 a xs ∧ R (ItzS K a x) H1
theorem pi_zipS {X : Cx} {e e2 : Expr} {ta : TA} {p pos tpos : Pos} {elts : List Expr} {kk : Nat} (hg : Gl X "zip") (hm : X.mg "zip" = none) (ha : PA X [e, e2] ta)
    (hs : starEach [e, e2] X.env = (false, eval e X.env) :: starEach [e2] X.env := by rfl) (hpl : (backTo pos (starEach [e2] X.env)).any (·.1) = false := by rfl) :
    PI X (.Tuple elts kk tpos) (.Call (.Name "zip" p) [e, e2] [] pos) (iZipS X.K ta) := by
  refine ⟨fun pins s σ H R I h => ?_⟩
  refine Call_ (ld_blt I hg hm PyProof.Rows.boot_zip (PyProof.Rows.callWith_type1 (thn (ha.run pos pins s σ H _ I h) fun us s1 ⟨vs, H1, I1, r1, q1⟩ => ?_) hs hpl))
  obtain ⟨a, x, xs, ex, hqx, q⟩ := q1
  subst ex
  cases r1 with
  | cons r rr =>
    cases rr with
    | cons r' rr =>
      cases rr
      cases r
      obtain ⟨t, rfl⟩ := (show ∃ t, _ = Value.str x t from r')
      obtain ⟨its, rv, p1, _⟩ := I1.list hqx
      have la : a < s1.heap.objs.size := p1.lt
      refine zip_begins2 (begins_list a its.toArray) (begins_text x t) p1.isList trivial fun h' hz hTI hTO h1 h2 hsz hk => wpAny_pyIter_zip hz ?_
      have I2 : Inv X pins σ H1 { s1 with heap := h' } := I1.kept (t' := s1.toks) hk
      have S := zipS_sep s1.heap.objs.size a la
      refine ⟨s1.heap.objs.size + 4, [s1.heap.objs.size + 4, s1.heap.objs.size + 2, s1.heap.objs.size + 3, s1.heap.objs.size, s1.heap.objs.size + 1], _, _, H1, rfl, I2, turn_zipS S (Nat.ne_of_lt la), ⟨hz, hTI, ⟨_, _, hTO⟩, ⟨_, h1, rfl, rfl⟩, ⟨_, h2, rfl, rfl⟩⟩, fun c hcm => ?_, q⟩
      have e' : c = s1.heap.objs.size + 4 ∨ c = s1.heap.objs.size + 2 ∨ c = s1.heap.objs.size + 3 ∨ c = s1.heap.objs.size ∨ c = s1.heap.objs.size + 1 := by simpa using hcm
      have hle : s1.heap.objs.size ≤ c := zipS_le _ _ e'
      exact I1.fpOk hle (I1.hok.fresh hle)
section
variable {T : List (Addr × Str)} {X : Cx} {ε : List Sl} {a b c o i value e e2 : Expr} {es : List Expr} {d d1 d2 dk : Dt} {ds : List Dt} {G : GP} {pos pos' tpos p : Pos} {P : Oc → Prop}
/-- zip(list, text) -/
theorem di_zipS {elts : List Expr} {kk : Nat} {x : Str} (hm : X.mg "zip" = none) (h : DB T X ε e (.lst ds)) (h2 : DE T X ε e2 (.str x)) (hl : x.cps.size = ds.length) (hg : Gl X "zip" := by rfl) (hs : starEach [e, e2] X.env = (false, eval e X.env) :: starEach [e2] X.env := by rfl)
    (hs2 : starEach [e2] X.env = (false, eval e2 X.env) :: starEach [] X.env := by rfl) (hpl : (backTo pos (starEach [e2] X.env)).any (·.1) = false := by rfl) :
    DI T X ε (.Tuple elts kk tpos) (.Call (.Name "zip" p) [e, e2] [] pos) ds.length (fun i => .tup [ds.getD i .non, .str ⟨#[x.cps.getD i 0]⟩]) (iZipS X.K (tCons (tG T X ε (gB X (.lst ds))) (tCons (tG T X ε (gE X (.str x))) tNil))) := by
  refine ⟨pi_zipS hg hm (pa_cons h.pe (pa_cons h2.pe pa_nil hs2) hs) hs hpl, fun σ H H0 ev R k => ⟨H0, ev, fun v H1 ⟨g, hv⟩ => ⟨H0, ev.grow g, fun v2 H2 ⟨g2, hv2⟩ => ?_⟩⟩⟩
  cases hv2
  have hv := hv.ex (cut_ex (ev.grow g).own g2)
  have g3 := g.trans g2
  clear g g2 
  cases hv with
  | @lst p xs _ h1 a1 =>
    have sq : ∀ {H : Hp}, H p = some (.lst xs) → SqL X.K H p xs := fun e => SqL.of e
    refine ⟨p, x, xs, rfl, SqL.of (cut_sub _ _ h1), k _ H2 (fun H => SqL X.K H p xs) (fun i H v H' => ∃ T y c, v = .ref T ∧ H T = none ∧ H' = upd H T (.tup [y, .str ⟨#[c]⟩]) ∧ xs[i]? = some y ∧ x.cps[i]? = some c) g3 ⟨?_, ?_, ?_⟩
      (fun A H' g2 => SqL.of (cut_sub _ _ (g2.keep _ _ h1 (fun _ z => by cases z)))) ?_⟩
    · intro i H hi q
      have : i < xs.length := by rw [a1.length]; exact hi
      exact ⟨xs, xs[i], q, by simp [this], by rw [hl]; exact hi⟩
    · intro H q
      exact ⟨xs, q, by rw [a1.length, hl]; simp⟩
    · rintro i H v H' hi q ⟨T, y, c, e1, e2, e3, e4, e5⟩
      exact ⟨T, y, c, e1, e2, e3, e4 xs q, e5⟩
    · rintro A i H' v H'' hi g2 own ⟨T', y, c, e1, hT, e2, e3, e4⟩
      subst e1 e2
      obtain ⟨v, q1, q2⟩ := a1.get (getD_some hi)
      rw [e3] at q1; cases q1
      have c2 := (cut_new (A := A) (o := .tup [y, .str ⟨#[c]⟩]) hT).ex
      have ec : x.cps.getD i 0 = c := by rw [Array.getD_eq_getD_getElem?, e4]; rfl
      rw [ec]
      exact ⟨Ex.new hT, .tup (da_ref (K := X.K) (P := X.prog) (w := X.w) own hT) (.cons ((q2.ex g2).ex c2) (.cons (.str _) .nil))⟩
end
end Cp
end
section
set_option maxHeartbeats 4000000
/-! Dict comprehensions with nested keys. -/
namespace Cp
open PySem PySem.Spec PyProof.Rows L2 LamX
section
variable {X : Cx} {pins : List (Addr × Obj)} {σ : L2.St} {H : Hp} {s : Shared}
/-- a dict at D with the entries es, as data kvs -/
structure OwnD (P : Program) (w : World) (K : PySem.W.Frag) (H : Hp) (D : Addr) (es : List (NK × Addr × V)) (kvs : List (NK × Dt)) : Prop where
  at_ : H D = some (dictO P w D es)
  kvs : DaKvs P w K H es kvs
  nd : (es.map (·.1)).Nodup
  len : es.length ≤ sizeLine
theorem no_dictSet {E : Value → Shared → Prop} {D b : Addr} {es : List (NK × Addr × V)} {kvs : List (NK × Dt)} {ks : List NK} {v : V} {r : Value} {Q : Unit → Shared → Prop} (hu : X.A.units + 9 < cLine) (I : Inv X pins σ H s) (o : OwnD X.prog X.w X.K H D es kvs)
    (hk : Da X.prog X.w X.K H (.ref b) (kd (.tup ks))) (h8 : (NestedKey.tup ks).depth ≤ 8) (rv : RelV v r) (h : ∀ s', Inv X pins σ (upd H D (dictO X.prog X.w D (putE es (.tup ks) b v))) s' → Q () s') : wpAny (model X.prog X.w) X.A (dictSet D (.ref b) r) Q E s := by
  obtain ⟨ys, f, dd⟩ := do_of I.hok o.at_ o.kvs o.nd
  have hkey := is_key I.hok (.tup ks) (v := .ref b) (u := .ref b) hk rfl
  have hz : ys.length ≤ sizeLine := by rw [← Paired.length f]; exact o.len
  have room : (nestedKind X.prog X.w).room X.A := by show X.A.units + 8 < cLine; omega
  refine wpAny_dictSet_heap (hsz := hz) room ⟨hkey, h8⟩ dd fun h' dd' hs => h _ ?_
  have he : ∃ q, h'.get? D = some q := let ⟨q, _, _, hq, _⟩ := dd'; ⟨q, hq⟩
  exact d_write I (by rw [o.at_]; exact True.intro) hs he (do_ok (fe_put f (.tup ks) rv) dd')
end
section
variable {X : Cx}
/-- the reading of {k: v for target in iter if ..}: D the new dict -/
def tDcN (X : Cx) (wi : TI) (g : TG) (tt : TT) (tk tv : TE) (vs : List Nat) : TE := fun σ H Q => wi σ H fun J H1 => ∀ D, H1 D = none → (D == sysModules) = false → ∃ W : Nat → Nat → Hp → Prop, (∃ m, W 0 m (upd H1 D (dictO X.prog X.w D []))) ∧ ∀ i m H, W i m H →
  (J.stop i H ∧ Q (.ref D) H) ∨ (J.go i H ∧ ∃ Nx : Hp → Prop, (∀ H', Nx H' → ∃ m', m' < m ∧ W (i + 1) m' H') ∧ ∀ x H', J.yld i H x H' → g x (wipe σ vs) H' fun σ2 H2 => wipe σ2 vs = wipe σ vs ∧ tt σ2 H2 fun b H3 =>
    if b = true then tk σ2 H3 fun y H4 => tv σ2 H4 fun z H5 => ∃ es kvs ks c, y = .ref c ∧ OwnD X.prog X.w X.K H5 D es kvs ∧ Da X.prog X.w X.K H5 (.ref c) (kd (.tup ks)) ∧ (NestedKey.tup ks).depth ≤ 8 ∧ Nx (upd H5 D (dictO X.prog X.w D (putE es (.tup ks) c z))) else Nx H3)
theorem pe_dcN {kx vx tg iter : Expr} {ifs : List Expr} {scope : Scope} {own : List (Str × Nat)} {pos : Pos} {wi : TI} {g : TG} {tt : TT} {tk tv : TE} (hu : X.A.units + 9 < cLine) (hc : X.calm = true) (hN : X.N.Nodup) (hi : PI X tg iter wi) (ok : BlkOk X.N X.env.scope scope own)
    (hg : BAll X scope fun Y => PG Y tg g) (ht : BAll X scope fun Y => PTs Y ifs tt) (hk : BAll X scope fun Y => PE Y kx tk) (he : BAll X scope fun Y => PE Y vx tv) (hs : ∀ x, foldedSetIterable iter X.env x = pure x := by intro _; rfl) :
    PE X (.DictComp kx vx [⟨tg, iter, ifs, 0⟩] scope pos) (tDcN X wi g tt tk tv (own.map (·.2))) := by
  refine ⟨fun pins s σ H Q I h => ?_⟩
  rw [arm_eval_DictComp]
  have hfree : ∀ y ∈ scope.names, y.2 = .free → ∃ c, X.env.cells.lookup y.1 = some c := fun y hy e => (ok.free y hy e).elim (fun k => I.ok.has _ (.inl k)) fun k => I.ok.has _ (.inr k)
  refine wpAny_comprehension_free (use := none) rfl hs (closure_ok hfree) ok.kind (fun y hy e => by rw [ok.uniq y hy, e]) (thn (hi.run pins s σ H _ I h) fun xv s1 hx => thn hx fun itv s2 h2 => ?_)
  obtain ⟨it, fp, tn, J, H2, e, I2, T, st2, f2, q⟩ := h2
  subst e
  refine wpAny_newObj_type (newEnv_comp ?_)
  generalize hD : s2.heap.objs.size = D
  have hDn : H2 D = none := I2.hok.fresh (Nat.le_of_eq hD)
  have hDs : (D == sysModules) = false := beq_eq_false_iff_ne.mpr (fun z => Nat.ne_of_lt I2.big (by rw [hD, z]))
  obtain ⟨W, ⟨m0, w0⟩, turn⟩ := q D hDn hDs
  generalize hs3 : ({ s2 with heap := s2.heap.push { cls := .type "dict", data := .dict #[] } } : Shared) = s3
  have h3 : s3.heap = s2.heap.push { cls := .type "dict", data := .dict #[] } := by rw [← hs3]
  have I3 : Inv X pins σ (upd H2 D (dictO X.prog X.w D [])) s3 := by
    rw [← hs3, ← hD]
    exact I2.laid (t' := s2.toks) (fun b o e => Heap.get?_push_of_some _ e) (Nat.le_refl _) (do_ok .nil (Heap.DictOfH.new s2.heap))
  have young : ∀ b ∈ fp, b < D := fun b hb => by
    obtain ⟨o, e, _⟩ := T.obj _ _ st2 b hb
    rw [← hD]; exact Heap.lt_size e
  have f3 : ∀ b ∈ fp, FpOk X pins (upd H2 D (dictO X.prog X.w D [])) b ∧ b < s3.heap.objs.size := fun b hb => by
    have hlt := young b hb
    refine ⟨⟨?_, (f2 b hb).2⟩, by rw [h3, Heap.size_push, hD]; exact Nat.lt_succ_of_lt hlt⟩
    rw [upd_ne (Nat.ne_of_lt hlt)]
    exact (f2 b hb).1
  have st3 : tn 0 s3.heap := T.keep _ _ _ st2 fun b _ o e => by rw [h3]; exact Heap.get?_push_of_some _ e
  have I4 := block_start I3 ok hN f3
  have pg := hg s3 (upd H2 D (dictO X.prog X.w D [])) s3.heap.objs.size (cellsFrom (s3.heap.objs.size + 1) scope.names (cloFrom X.env.cells scope.names [])) fp
  have pt := ht s3 (upd H2 D (dictO X.prog X.w D [])) s3.heap.objs.size (cellsFrom (s3.heap.objs.size + 1) scope.names (cloFrom X.env.cells scope.names [])) fp
  have pk := hk s3 (upd H2 D (dictO X.prog X.w D [])) s3.heap.objs.size (cellsFrom (s3.heap.objs.size + 1) scope.names (cloFrom X.env.cells scope.names [])) fp
  have pe := he s3 (upd H2 D (dictO X.prog X.w D [])) s3.heap.objs.size (cellsFrom (s3.heap.objs.size + 1) scope.names (cloFrom X.env.cells scope.names [])) fp
  show codeAny _ _ (.compStart (.DictComp kx vx [⟨tg, iter, ifs, 0⟩] scope pos) 0 (.ref it) (.ref D) (compEnvC scope (cellsFrom (s3.heap.objs.size + 1) scope.names (cloFrom X.env.cells scope.names [])) s3.heap.objs.size X.env)) (compPost (model X.prog X.w) X.A X.xe none _ (.ref D) s3.heap.objs.size) { s3 with heap := pushCells (s3.heap.push { cls := .type "dict", data := .dict #[] }) scope.names }
  have nfp : ∀ b ∈ fp, (upd H2 D (dictO X.prog X.w D [])) b = none := fun b hb => (f3 b hb).1.1
  unfold BX at pg pt pk pe
  generalize hce : compEnvC scope (cellsFrom (s3.heap.objs.size + 1) scope.names (cloFrom X.env.cells scope.names [])) s3.heap.objs.size X.env = ce at I4 pg pt pk pe ⊢
  have cL : ce.locals = s3.heap.objs.size := by subst hce; rfl
  generalize hH3 : upd H2 D (dictO X.prog X.w D []) = H3 at I3 I4 pg pt pk pe w0 nfp f3
  generalize hs4 : ({ s3 with heap := pushCells (s3.heap.push { cls := .type "dict", data := .dict #[] }) scope.names } : Shared) = s4 at I4 ⊢
  have st4 : tn 0 s4.heap := T.keep _ _ _ st3 fun b _ o e => by rw [← hs4]; exact pushCells_keeps _ _ _ _ (Heap.get?_push_of_some _ e)
  have stat : ∀ {σ' : L2.St} {H' : Hp} {s' : Shared}, Inv (X.blk s3 H3 scope ce fp) [] σ' H' s' → (∀ b ∈ fp, H' b = none) → ∀ b ∈ fp, FpOk (X.blk s3 H3 scope ce fp) [] H' b := fun {σ' H' s'} I' hn b hb =>
    ⟨hn b hb, (I'.ok.exf b hb).1, I'.ok.exfs b hb, .inl hb, fun x c e => (I'.ok.exf b hb).2 x c e, fun p hp => absurd (show p ∈ ([] : List (Addr × Obj)) ++ [] from hp) (by simp)⟩
  refine codeAny_compStart_dict ?loop (T.self X.A 0 _ _ _ st4 ?loop)
  case loop =>
    refine compLoop_anyD (fun n s' => ∃ i H', Inv (X.blk s3 H3 scope ce fp) [] (wipe σ (own.map (·.2))) H' s' ∧ tn i s'.heap ∧ (∀ b ∈ fp, H' b = none) ∧ W i n H') ?_ m0 ⟨0, H3, I4, st4, nfp, w0⟩
    rintro n s5 ⟨i, H5, I5, st5, n5, w5⟩
    rcases turn i n H5 w5 with ⟨stop, qq⟩ | ⟨go, Nx, hNx, step⟩
    · refine thnF (T.done (X.blk s3 H3 scope ce fp) rfl rfl rfl hc i [] s5 _ H5 (fun _ _ => False) I5 (stat I5 n5) st5 stop) fun r s6 ⟨hr, I6⟩ => ?_
      subst hr
      have I7 : Inv X pins σ H5 s6 := I3.call' (ch := fp) I6.os I6.base I6.hok I6.bare fun b hb => ⟨(f3 b hb).1.2.2.2.1, (f3 b hb).1.2.1, (f3 b hb).1.2.2.2.2.1, (f3 b hb).1.2.2.2.2.2⟩
      have nC : H5 s3.heap.objs.size = none := by
        have z : H5 ce.locals = none := I6.free
        rw [cL] at z; exact z
      obtain ⟨m, hn, _⟩ := I6.loc
      have hn : s6.heap.Ns ce.locals m := hn
      rw [cL] at hn
      refine ⟨m, hn, fun h'' sb => ?_⟩
      obtain ⟨f0, f1, f2', f3', f4, f5⟩ := I3.fpOk (H' := H5) (Nat.le_refl _) nC
      exact ⟨.ref D, H5, I7.turned (t' := s6.toks) (fun b o hb e => (sb.2 b hb).trans e) f0 f1 f3' f4 f5, rfl, qq⟩
    · refine thnF (T.item (X.blk s3 H3 scope ce fp) rfl rfl rfl hc i [] s5 _ H5 (fun _ _ => False) I5 (stat I5 n5) st5 go) fun r s6 ⟨u, hr, h6⟩ => ?_
      subst hr
      refine thnF h6 fun _ s7 ⟨x, H7, I7, r7, y7, st7, n7⟩ => ?_
      have I7' := I7.pinned (stat I7 n7) (T.obj _ _ st7)
      refine thnF (pg.run _ s7 _ H7 x u _ I7' r7 (step x H7 y7)) fun _ s8 ⟨σ8, H8, I8, hw8, q8⟩ => ?_
      refine thnF (pt.run _ s8 σ8 H8 _ I8 q8) fun b s9 ⟨H9, I9, q9⟩ => ?_
      have fin : ∀ {s' : Shared} {H' : Hp}, Inv (X.blk s3 H3 scope ce fp) ([] ++ pinsAt fp s7.heap) σ8 H' s' → Nx H' → ∃ m, m < n ∧ ∃ i H', Inv (X.blk s3 H3 scope ce fp) [] (wipe σ (own.map (·.2))) H' s' ∧ tn i s'.heap ∧ (∀ b ∈ fp, H' b = none) ∧ W i m H' := fun {s' H'} I' nx => by
        obtain ⟨m', hm, w'⟩ := hNx H' nx
        have pin' : ∀ b ∈ fp, ∀ o, s7.heap.get? b = some o → s'.heap.get? b = some o ∧ H' b = none := fun b hb o e =>
          let z := I'.pin (b, o) (List.mem_append_right _ (List.mem_append_right _ (mem_pinsAt hb e)))
          ⟨z.1, z.2.1⟩
        refine ⟨m', hm, i + 1, H', (I'.unpinned (pins := [])).weak (by rw [← hw8, wipe_length]) (fun j v e => ?_), T.keep _ _ _ st7 fun b hb o e => (pin' b hb o e).1, fun b hb => ?_, w'⟩
        · rw [← hw8] at e
          exact (wipe_some e).1
        · obtain ⟨o, e, _⟩ := T.obj _ _ st7 b hb
          exact (pin' b hb o e).2
      cases b with
      | false =>
        simp only [Bool.false_eq_true, if_false] at q9 ⊢
        exact fin I9 q9
      | true =>
        simp only [if_true] at q9 ⊢
        refine thnF (pk.run _ s9 σ8 H9 _ I9 q9) fun z s10 ⟨yk, H10, I10, r10, q10⟩ => ?_
        refine thnF (pe.run _ s10 σ8 H10 _ I10 q10) fun z2 s11 ⟨yv, H11, I11, r11, es, kvs, ks, c, ec, o11, hk11, h8, nx⟩ => ?_
        subst ec
        cases (show z = Value.ref c from r10)
        exact no_dictSet (X := X.blk s3 H3 scope ce fp) hu I11 o11 hk11 h8 r11 fun s12 I12 => fin I12 nx
end
section
variable {T : List (Addr × Str)} {X : Cx} {ε : List Sl} {kx vx tg iter : Expr} {scope : Scope} {pos : Pos}
/-- the pairs put in, from the left -/
def putAll (ps : List (NK × Dt)) : List (NK × Dt) := ps.foldl (fun kvs p => putD kvs p.1 p.2) []
theorem putAll_snoc (ps : List (NK × Dt)) (p : NK × Dt) : putAll (ps ++ [p]) = putD (putAll ps) p.1 p.2 := by unfold putAll; rw [List.foldl_append]; rfl
theorem putD_vals (kvs : List (NK × Dt)) (k : NK) (d : Dt) : ∀ p ∈ putD kvs k d, p ∈ kvs ∨ p.2 = d := fun p hp => by
  unfold putD at hp
  split at hp
  · obtain ⟨q, hq, rfl⟩ := List.mem_map.mp hp
    split
    · exact .inr rfl
    · exact .inl hq
  · rcases List.mem_append.mp hp with h | h
    · exact .inl h
    · have h : p = (k, d) := by simpa using h
      rw [h]; exact .inr rfl
theorem putAll_vals (ps : List (NK × Dt)) : ∀ p ∈ putAll ps, ∃ q ∈ ps, p.2 = q.2 := by
  have gen : ∀ (ps acc : List (NK × Dt)), ∀ p ∈ ps.foldl (fun kvs p => putD kvs p.1 p.2) acc, p ∈ acc ∨ ∃ q ∈ ps, p.2 = q.2 := by
    intro ps
    induction ps with
    | nil => intro acc p hp; exact .inl hp
    | cons x xs ih =>
      intro acc p hp
      rcases ih _ p hp with h | ⟨q, h1, h2⟩
      · rcases putD_vals _ _ _ p h with h | h
        · exact .inl h
        · exact .inr ⟨x, List.mem_cons_self .., h⟩
      · exact .inr ⟨q, List.mem_cons_of_mem _ h1, h2⟩
  intro p hp
  rcases gen ps [] p hp with h | h
  · cases h
  · exact h
theorem dd_dc {wi : TI} {n : Nat} {items : Nat → Dt} {own : List (Str × Nat)} {js : List Nat} {f : Nat → List Sl → List Sl} (fk : Nat → List NK) (fd : Nat → Dt) (hu : X.A.units + 9 < cLine) (hi : DI T X ε tg iter n items wi) (hN : X.N.Nodup) (ok : BlkOk X.N X.env.scope scope own)
    (ht : ∀ i, i < n → BAll X scope (fun Y => DTg T Y tg (items i) js (f i))) (hj : ∀ j ∈ js, j ∈ own.map (·.2)) (hk : ∀ i, i < n → BAll X scope (fun Y => DE T Y (f i (wipeE ε (own.map (·.2)))) kx (kd (.tup (fk i)))))
    (hv : ∀ i, i < n → BAll X scope (fun Y => DE T Y (f i (wipeE ε (own.map (·.2)))) vx (fd i))) (h8 : ∀ i, i < n → (NestedKey.tup (fk i)).depth ≤ 8) (himm : ∀ i, i < n → (fd i).imm = true) (hn : n < 200000)
    (hc : X.calm = true := by rfl) (hs : ∀ x, foldedSetIterable iter X.env x = pure x := by intro _; rfl) : DD T X ε (.DictComp kx vx [⟨tg, iter, [], 0⟩] scope pos) (putAll ((List.range n).map fun i => (.tup (fk i), fd i))) := by
  refine .of (pe_dcN hu hc hN hi.pi ok (pg_any (T := T)) (pts_any (T := T)) (pe_any (T := T)) (pe_any (T := T)) hs) fun σ H H0 ev => hi.rd σ H H0 ev _ fun J H1 G Y g w hG hY D hD hDs => ?_
  have ev1 := ev.grow g
  let LP : Nat → Hp → Prop := fun i H' => ∃ es, H' D = some (dictO X.prog X.w D es) ∧ Ex H1 (cut [D] H') ∧ DaKvs X.prog X.w X.K (cut [D] H') es (putAll ((List.range i).map fun i => (.tup (fk i), fd i))) ∧ (es.map (·.1)).Nodup ∧ es.length ≤ i
  have ownD : ∀ {H' : Hp} {es : List (NK × Addr × V)}, H' D = some (dictO X.prog X.w D es) → ∀ a ∈ [D], OwnAt H' a := fun {H' es} e a ha => by
    have ha : a = D := by simpa using ha
    subst ha
    exact .inr (.inl ⟨_, _, es, e⟩)
  have grow : ∀ {i : Nat} {H' H'' : Hp}, LP i H' → Ex H' H'' → LP i H'' := fun {i H' H''} ⟨es, h1, h2, h3, h4, h5⟩ g => by
    have c := cut_ex (ownD h1) g
    exact ⟨es, g.keep _ _ h1 (dictO_tbl _ _), h2.trans c, h3.ex c, h4, h5⟩
  have start : LP 0 (upd H1 D (dictO X.prog X.w D [])) := by
    refine ⟨[], upd_same, ?_, .nil, List.nodup_nil, Nat.le_refl _⟩
    have : cut [D] (upd H1 D (dictO X.prog X.w D [])) = H1 := by
      funext b
      by_cases hb : b = D
      · subst hb; rw [cut_in (by simp), hD]
      · rw [cut_out (by simpa using hb), upd_ne hb]
    rw [this]; exact Ex.refl H1
  refine ⟨fun i m H => m = n - i ∧ i ≤ n ∧ LP i H, ⟨n, by simp, Nat.zero_le _, start⟩, ?_⟩
  rintro i m H' ⟨rfl, hi', p⟩
  have gx : Ex H1 H' := let ⟨es, h1, h2, _⟩ := p; h2.trans cut_sub.ex
  have c1 := cut_ex ev1.own gx
  have hGG := hG (owns σ ε) H' c1
  by_cases hlt : i < n
  · refine .inr ⟨w.goes i H' hlt hGG, LP (i + 1), fun H' p' => ⟨n - (i + 1), by omega, rfl, hlt, p'⟩, fun x H'' yy => ?_⟩
    have y := w.yields i H' x H'' hlt hGG yy
    have ev' := ev1.grow gx
    obtain ⟨g2, hx⟩ := hY (owns σ ε) i H' x H'' hlt c1 ev'.own y
    have ev2 := ev'.grow g2
    obtain ⟨w1, w2⟩ := ev2.wipe (own.map (·.2))
    have p2 := grow p g2
    refine ⟨items i, js, f i, wipeE ε (own.map (·.2)), _, ht i hlt, w1.rebase, hx.ex (cut_sub_of w2).ex, fun σ3 H3 ev3 sb g3 => ⟨wipe_same sb hj, ?_⟩⟩
    refine ⟨f i (wipeE ε (own.map (·.2))), true, _, fun _ _ _ _ _ => dts_nil, ev3, fun H4 g4 => ?_⟩
    have ev4 := ev3.grow g4
    show if true = true then _ else _
    rw [if_pos rfl]
    refine ⟨_, gE X (kd (.tup (fk i))), _, hk i hlt, ev4, fun k H5 ⟨g5, hk5⟩ => ?_⟩
    refine ⟨_, gE X (fd i), _, hv i hlt, ev4.grow g5, fun v H6 ⟨g6, hv6⟩ => ?_⟩
    have p6 := grow p2 ((g3.trans g4).trans (g5.trans g6))
    obtain ⟨es, h1, h2, h3, h4, h5⟩ := p6
    have hk6 := hk5.ex g6
    have hk7 := hk6
    rw [kd_tup] at hk7
    cases hk7 with
    | @tup c xs _ hb ab =>
      refine ⟨es, _, fk i, c, rfl, ⟨h1, h3.ex cut_sub.ex, h4, by rw [sizeLine_eq]; omega⟩, hk6, h8 i hlt, putE es (.tup (fk i)) c v, upd_same, ?_, ?_, putE_keys _ _ _ _ h4, ?_⟩
      · rw [cut_upd (by simp)]; exact h2
      · rw [cut_upd (by simp), List.range_succ, List.map_append, List.map_cons, List.map_nil, putAll_snoc]
        exact kvs_put h3 (hk6.imm_cut (ownD h1) (kd_imm _)) (h8 i hlt) (hv6.imm_cut (ownD h1) (himm i hlt))
      · have := putE_length es (.tup (fk i)) c v; omega
  · have e : i = n := by omega
    subst e
    obtain ⟨es, h1, h2, h3, h4, h5⟩ := p
    refine .inl ⟨w.stops H' hGG, cut [D] H', D, es, rfl, g.trans h2, cut_in (by simp), ?_, ?_, h4, by rw [sizeLine_eq]; omega, hDs⟩
    · funext b
      by_cases hb : b = D
      · subst hb; rw [upd_same, h1]
      · rw [upd_ne hb, cut_out (by simpa using hb)]
    · refine h3.monoI (fun b xs q => own_tup (fun a ha => ((ev.own a ha).ex g).ex h2) b xs q) fun p hp => ?_
      obtain ⟨q, hq, e⟩ := putAll_vals _ p hp
      obtain ⟨i, hi, rfl⟩ := List.mem_map.mp hq
      rw [e]
      exact himm i (List.mem_range.mp hi)
end
end Cp
end
section
set_option maxHeartbeats 4000000
/-! Instances made, their fields, properties, `in`; isinstance; sorted sets. -/
namespace Cp
open PySem PySem.Spec PyProof.Rows L2 LamX

/-! ### fields -/
def putG (f : Str) (d : Dt) : List (Str × Dt) → List (Str × Dt)
  | [] => [(f, d)]
  | (g, x) :: r => if g = f then (g, d) :: r else (g, x) :: putG f d r
theorem daFs_put {P : Program} {w : World} {K : PySem.W.Frag} {H : Hp} {v : V} {d : Dt} (f : Str) (hd : Da P w K H v d) : ∀ {fs : List (Str × V)} {gs : List (Str × Dt)}, DaFs P w K H fs gs → DaFs P w K H (putF f v fs) (putG f d gs)
  | _, _, .nil => .cons hd .nil
  | _, _, .cons (f := g) a b => by
    unfold putF putG
    by_cases e : g = f
    · rw [if_pos e, if_pos e]; exact .cons hd b
    · rw [if_neg e, if_neg e]; exact .cons a (daFs_put f hd b)
theorem daFs_length {P : Program} {w : World} {K : PySem.W.Frag} {H : Hp} : ∀ {fs : List (Str × V)} {gs : List (Str × Dt)}, DaFs P w K H fs gs → fs.length = gs.length
  | _, _, .nil => rfl
  | _, _, .cons _ b => by rw [List.length_cons, List.length_cons, daFs_length b]
section
variable {T : List (Addr × Str)} {X : Cx} {ε : List Sl} {e a b c o value : Expr} {es : List Expr} {d d1 d2 : Dt} {ds : List Dt} {pos pos' p apos : Pos} {P : Oc → Prop}
/-- self.f = e, self one's own -/
theorem d_setF (i : Nat) {x f : Str} {p1 : Pos} {A C : Addr} {fs : List (Str × Dt)} (hε : ε[i]? = some (.oo A C fs)) (hc : Cls X.K C) (hn : NoAttr X.K C f) (he : DB T X ε e d) (hl : fs.length < 900) (h : P (.nx (ε.set i (.oo A C (putG f d fs))))) (hN : X.N[i]? = some x := by rfl)
    (hv : Vis X.env.scope x := by first | exact Or.inl rfl | exact Or.inr (Or.inl rfl) | exact Or.inr (Or.inr rfl)) (hd1 : (x == ("__debug__" : Str)) = false := by decide) (hcd : (x == ("__classdict__" : Str)) = false := by decide)
    (hs : swapsWith e (some (.Attribute (.Name x p1) f pos')) pos.line X.env = pure false := by rfl) : DS T X ε (.Assign [.Attribute (.Name x p1) f pos'] e pos) P :=
  .of (ps_fld (pe_var hN hv hd1 hcd) he.pe hs) fun σ H H0 ev => ⟨H0, ev, fun v H1 ⟨g, hv⟩ => by
    have ev1 := ev.grow g
    obtain ⟨y, g1, dx, gs, e1, e2, e3⟩ := pget ev1.sl hε
    subst e1
    refine ⟨_, g1, A, C, dx, gs, rfl, e2, hc, hn, by rw [daFs_length e3]; omega, ?_⟩
    exact ⟨_, ev1.updO (s := .oo A C (putG f d fs)) hε rfl g1 rfl ⟨dx, _, rfl, upd_same, daFs_put f hv e3⟩, h⟩⟩

/-! ### making -/
def spI (T : List (Addr × Str)) (P : Program) (w : World) (K : PySem.W.Frag) (C : Addr) (n : Nat) (R : List Dt → List (Str × Dt) → Prop) : Sp := fun vs H Q _ => ∃ (x dx : Addr) (B : Hp) (args : List V) (ds : List Dt) (fs : List (Str × Dt)), vs = .ref x :: args ∧ B x = none ∧ B dx = none ∧ dx ≠ x ∧
  H = upd (upd B dx (.own x)) x (.ins C dx []) ∧ Tb T B ∧ DaAll P w K B args ds ∧ ds.length + 1 = n ∧ R ds fs ∧ ∀ H2, Ex B H2 → Da P w K H2 (.ref x) (.obj C fs) → Q .non H2
structure FnI (T : List (Addr × Str)) (P : Program) (w : World) (K : PySem.W.Frag) (mg : Str → Option Value) (base : Heap) (C : Addr) (k : Nat) (ps : List Str) (R : List Dt → List (Str × Dt) → Prop) : Prop where
  ok : ∃ f fd, FnOk P w K mg base CX0 k f fd ps (spI T P w K C ps.length R) ∧ Mk K C f ∧ Binds K fd ps []
theorem de_make {x : Str} {k j : Nat} {C : Addr} {ps : List Str} {R : List Dt → List (Str × Dt) → Prop} {fs : List (Str × Dt)} (F : FnI T X.prog X.w X.K X.mg X.base C k ps R) (hm : X.mg x = some (.ref C)) (hr : Room j X.A) (ha : DA T X ε (e :: es) ds) (hR : R ds fs) (hk : k + 1 ≤ j := by decide) (hl : ds.length + 1 = ps.length := by rfl) (hg : Gl X x := by rfl)
    (hdb : (x == ("__debug__" : Str)) = false := by decide) (he : starEach (e :: es) X.env = (false, eval e X.env) :: starEach es X.env := by rfl) (hpl : (backTo pos (starEach es X.env)).any (·.1) = false := by rfl) : DE T X ε (.Call (.Name x p) (e :: es) [] pos) (.obj C fs) := by
  obtain ⟨f, fd, F1, M, B⟩ := F.ok
  refine .of (pe_make M F1 (hr.mono hk) hg hm B .nil pass0 ha.pa hdb he hpl) fun σ H H0 ev => argsG ev fun vs H1 g hv x dx hx hdx hne => ?_
  rw [List.append_nil]
  refine ⟨x, dx, H1, vs, ds, fs, rfl, hx, hdx, hne, rfl, g.tabs T ev.tabs, hv, hl, hR, fun H2 g2 h => ⟨rfl, g.trans g2, h⟩⟩
def endI (x C : Addr) (fs : List (Str × Dt)) : Oc → Prop
  | .nx ε => ε[0]? = some (.oo x C fs)
  | _ => False
end
section
variable {T : List (Addr × Str)} {P : Program} {w : World} {K : PySem.W.Frag} {mg : Str → Option Value} {base : Heap} {x qual : Str} {st : Stmt} {f : Addr} {fd : FuncData} {N ps : List Str} {k : Nat}
theorem fn_bodyI (F : FnP K x qual st f fd) (S : FnScope N ps (defScope st)) (k : Nat) (C : Addr) (R : List Dt → List (Str × Dt) → Prop)
    (hb : ∀ (cdv : Value) (A : Around) (outer : List Env) (s : Shared) (H : Hp) (E : XK) (x : Addr) (ds : List Dt) (fs : List (Str × Dt)), Room k (A.deeper (envOfC qual (defScope st) s.heap.objs.size f cdv)) → ds.length + 1 = ps.length → R ds fs →
      DSs T (bodyX P w K mg base N qual st f cdv A outer s H E) (.oo x C [] :: (ds.map .val ++ List.replicate (N.length - ps.length) .no)) (defBody st) (endI x C fs)) : FnOk P w K mg base CX0 (k + 1) f fd ps (spI T P w K C ps.length R) := by
  refine F.ok S (fun vs H Q E ⟨x, dx, B, args, ds, fs, e, _, _, _, _, _, h, hl, _⟩ => by rw [e, List.length_cons, h.length]; exact hl) fun cdv A outer s H vs Q E hr ⟨x, dx, B, args, ds, fs, e, hx, hdx, hne, eH, t, h, hl, hR, k⟩ => ⟨_, (hb cdv A outer s H E x ds fs hr hl hR).pss.nox, B, ?_, ?_, ?_, ?_, ?_⟩
  · subst e eH
    have es : L2.start N (V.ref x :: args) = some (V.ref x) :: (args.map some ++ List.replicate (N.length - ps.length) none) := by
      unfold L2.start
      rw [List.map_cons, List.cons_append, List.length_cons, h.length, hl]
    have ow : owns (L2.start N (V.ref x :: args)) (.oo x C [] :: (ds.map Sl.val ++ List.replicate (N.length - ps.length) Sl.no)) = [x] := by
      rw [es]
      unfold owns
      rw [owns_no (noOwn_start _ _)]
      rfl
    have ce : cut [x] (upd (upd B dx (.own x)) x (.ins C dx [])) = upd B dx (.own x) := by
      rw [cut_upd (by simp)]
      funext b
      by_cases hb : b = x
      · subst hb; rw [cut_in (by simp), upd_ne (Ne.symm hne), hx]
      · rw [cut_out (by simpa using hb)]
    have ex : Ex B (upd B dx (.own x)) := Ex.new hdx
    refine ⟨?_, ?_, ?_, ?_⟩
    · rw [ow, ce]; exact ex
    · rw [ow, ce]; exact ex.tabs T t
    · rw [ow]; simp
    · rw [ow, ce, es]
      refine .cons ⟨dx, [], rfl, upd_same, .nil⟩ ?_
      exact pmono (paired_start (h.ex ex) _) fun v s q => by
        cases s with
        | no => trivial
        | val d => exact q
        | ol ds =>
          obtain ⟨a, xs, q1, q2, q3⟩ := q
          refine ⟨a, xs, q1, ?_, q3⟩
          rw [upd_ne]
          · exact q2
          · intro z; subst z; rw [upd_ne (Ne.symm hne), hx] at q2; cases q2
        | od kvs =>
          obtain ⟨a, xs, q1, q2, q3⟩ := q
          refine ⟨a, xs, q1, ?_, q3⟩
          rw [upd_ne]
          · exact q2
          · intro z; subst z; rw [upd_ne (Ne.symm hne), hx] at q2; cases q2
        | oo a C fs =>
          obtain ⟨dx', gs, q1, q2, q3⟩ := q
          refine ⟨dx', gs, q1, ?_, q3⟩
          rw [upd_ne]
          · exact q2
          · intro z; subst z; rw [upd_ne (Ne.symm hne), hx] at q2; cases q2
  · rintro σ' H' ⟨ε', ev', q⟩
    have q : ε'[0]? = some (.oo x C fs) := q
    obtain ⟨y, g1, dx', gs, e1, e2, e3⟩ := pget ev'.sl q
    exact k H' (ev'.ex.trans cut_sub.ex) (.obj e2 (e3.ex cut_sub.ex))
  · rintro v H' ⟨d', q1, q2, q3, q4⟩; exact False.elim q4
  · rintro σ' H' ⟨ε', _, q⟩; exact q
  · rintro σ' H' ⟨ε', _, q⟩; exact q
end

/-! ### properties, `in` -/
section
variable {T : List (Addr × Str)} {X : Cx} {ε : List Sl} {e a b c o value : Expr} {es : List Expr} {d d1 d2 : Dt} {ds : List Dt} {pos pos' p apos : Pos} {P : Oc → Prop} {C : Addr} {fs : List (Str × Dt)}
structure FnG (T : List (Addr × Str)) (P : Program) (w : World) (K : PySem.W.Frag) (mg : Str → Option Value) (base : Heap) (C : Addr) (f : Str) (k : Nat) (ps : List Str) (R : List Dt → Dt → Prop) : Prop where
  cls : Cls K C
  ok : ∃ q g fd, FnOk P w K mg base CX0 k g fd ps (spD T P w K ps.length R) ∧ PropOf K C f q g ∧ Binds K fd ps []
theorem de_prop {f : Str} {k j : Nat} {ps : List Str} {R : List Dt → Dt → Prop} (F : FnG T X.prog X.w X.K X.mg X.base C f k ps R) (hr : Room j X.A) (ho : DE T X ε o (.obj C fs)) (hR : R [.obj C fs] d) (hk : k + 1 ≤ j := by decide) (hl : 1 = ps.length := by rfl)
    (hab : attributeBase o f X.env (eval o X.env) = eval o X.env := by rfl) : DE T X ε (.Attribute o f pos) d := by
  obtain ⟨q, g, fd, F1, F2, F3⟩ := F.ok
  refine .of (pe_prop ho.pe F.cls F2 F1 (hr.mono hk) F3 .nil pass0 hab) fun σ H H0 ev => one1 ev fun x H1 gr hx => ?_
  cases hx with
  | @obj a C' dx fs' _ h1 a1 =>
    refine ⟨a, dx, fs', rfl, h1, gr.tabs T ev.tabs, [.obj C fs], d, .cons (.obj h1 a1) .nil, hl, hR, fun v H' g2 h f => ⟨gr.trans g2, h⟩⟩
theorem contains_own {prog : Program} {w : World} {A : Around} {E : Value → Shared → Prop} {s : Shared} {K : PySem.W.Frag} {x C f : Addr} {ox : Obj} {od : Option Obj} {y : Value} {b : Bool} {Q : Value → Shared → Prop} (X : K.In s.heap) (I : PySem.W.InstAt s.heap x ox C od)
    (hs : PySem.W.findIn K (.ref C) "__contains__" = some (some (.ref f))) (hf : PySem.W.isFn K (.ref f) = true) (h : wpAny (model prog w) A (call (.ref f) [.ref x, y]) (fun v s' => v = .bool b ∧ Q (.bool b) s') E s) : wpAny (model prog w) A (compareOp .In y (.ref x)) Q E s := by
  show wpAny _ _ (do return .bool (← contains (.ref x) y)) Q E s
  refine wpAny_bind ?_
  unfold contains
  try with_reducible refine wpAny_holding ?_
  refine wpAny_bind (wpAny_bind (I.type.here ((PySem.W.looks_findIn X hs).here ?_)))
  show wpAny _ _ (if (some (Value.ref f) == some Value.none) = true then _ else _) _ E s
  rw [if_neg (by simp)]
  refine wpAny_bind ?_
  simp only [callSpecialUnlessNone?]
  refine wpAny_bind (wpAny_bind (I.type.here ((PySem.W.looks_findIn X hs).here ?_)))
  refine wpAny_holding (wpAny_bind ((PySem.W.bind_fn X _ (beq_iff_eq.mp hf)).here ?_))
  show wpAny _ _ (if (Value.ref f == Value.none) = true then _ else _) _ E s
  rw [if_neg (by simp)]
  refine wpAny_bind (wpAny_mono h (fun v s' ⟨e, q⟩ => ?_) fun _ _ z => z)
  subst e
  exact wpAny_pure (wpAny_truthy_bool (wpAny_pure q))
/-- e in o, o's class has __contains__ -/
theorem de_inOwn {k j : Nat} {ps : List Str} {R : List Dt → Dt → Prop} {b' : Bool} (F : FnM T X.prog X.w X.K X.mg X.base C "__contains__" k ps R) (hr : Room j X.A) (ha : DE T X ε a d) (ho : DE T X ε o (.obj C fs)) (hR : R [.obj C fs, d] (.bl b')) (hk : k ≤ j := by decide) (hl : 2 = ps.length := by rfl)
    (hm : behindInMarks .In o = false := by rfl) : DE T X ε (.Compare a [.In] [o] pos) (.bl b') := by
  obtain ⟨f, fd, F1, M, B⟩ := F.ok
  let r : R2 := fun x y H Q => ∃ p dx gs, y = .ref p ∧ H p = some (.ins C dx gs) ∧ spD T X.prog X.w X.K ps.length R [.ref p, x] H (fun v H' => v = .bl b' ∧ Q (.bl b') H') E0
  have op : OpR X (compareOp .In) r := by
    intro pins s σ H x y v u Q I rx ry ⟨p, dx, gs, ey, h1, q⟩
    subst ey
    cases (show u = Value.ref p from ry)
    obtain ⟨mA, O, _, _, _, _⟩ := ins_get I.hok h1
    obtain ⟨od, J, _⟩ := O.look
    refine contains_own (b := b') I.kIn J M.at_ M.fn (thn (run_fn (Q := fun v H' => v = .bl b' ∧ Q (.bl b') H') (us := [.ref p, v]) (vs := [.ref p, x]) F1 (hr.mono hk) B .nil pass0 I (.cons rfl (.cons rx .nil)) (by rw [List.append_nil]; exact q)) fun w' s' ⟨z, H', I', rz, ez, q'⟩ => ?_)
    subst ez
    exact ⟨rz, .bl b', H', I', rfl, q'⟩
  refine .of (pe_cmpR op ha.pe ho.pe hm) fun σ H H0 ev => ⟨H0, ev, fun x H1 ⟨g1, hx⟩ => ⟨H0, ev.grow g1, fun y H2 ⟨g2, hy⟩ => ?_⟩⟩
  have hy' := hy
  cases hy' with
  | @obj p C' dx gs _ h1 a1 =>
    refine ⟨p, dx, gs, rfl, h1, (g1.trans g2).tabs T ev.tabs, [.obj C fs, d], .bl b', .cons hy (.cons (hx.ex g2) .nil), hl, hR, fun v H' g3 h _ => ?_⟩
    cases h
    exact ⟨rfl, (g1.trans g2).trans g3, .bl b'⟩
end

/-! ### isinstance -/
section
variable {T : List (Addr × Str)} {X : Cx} {ε : List Sl} {e a b c o value : Expr} {es : List Expr} {d d1 d2 : Dt} {ds : List Dt} {pos pos' p p2 apos : Pos} {P : Oc → Prop}
def tyOf : Dt → Option String
  | .int _ => some "int"
  | .bl _ => some "bool"
  | .tup _ => some "tuple"
  | .non => some "NoneType"
  | .str _ => some "str"
  | _ => none
theorem da_ty {P : Program} {w : World} {K : PySem.W.Frag} {H : Hp} {v : V} {n : String} (h : Da P w K H v d) (e : tyOf d = some n) : TyX K H v (.type n) := by
  cases h with
  | non => cases e; exact .base .non
  | bl b => cases e; exact .base (.bl b)
  | int i => cases e; exact .base (.int i)
  | str x => cases e; exact .base (.str x)
  | tup h a => cases e; exact .base (.tup h)
  | lst h a => cases e
  | dic h a n l s => cases e
  | obj h a => cases e
  | scr h => cases e
theorem de_isi {x : Str} {n m : String} {b' : Bool} (hmi : X.mg "isinstance" = none) (hmx : X.mg x = none) (ha : DE T X ε a d) (hn : tyOf d = some n) (hb : kitB n m = some b') (hv : bootBuiltins x = some (.type m)) (hgi : Gl X "isinstance" := by rfl) (hgx : Gl X x := by rfl)
    (hx : x ≠ "__name__" := by decide) (hd : (x == ("__debug__" : Str)) = false := by decide) (he2 : starEach [.Name x p2] X.env = (false, eval (.Name x p2) X.env) :: starEach [] X.env := by rfl)
    (he : starEach [a, .Name x p2] X.env = (false, eval a X.env) :: starEach [.Name x p2] X.env := by rfl) (hpl : (backTo pos (starEach [.Name x p2] X.env)).any (·.1) = false := by rfl) : DE T X ε (.Call (.Name "isinstance" p) [a, .Name x p2] [] pos) (.bl b') :=
  .of (pe_callB call_isi hgi hmi (by decide +kernel) (pa_cons ha.pe (pa_cons (pe_bltn (v := .ty m) hgx hmx hv rfl hx hd) pa_nil he2) he) (by decide) (by decide) he hpl) fun σ H H0 ev => ⟨H0, ev, fun v H1 ⟨g, hv⟩ =>
    ⟨v, .ty m, .type n, .type m, b', rfl, .ty m, da_ty hv hn, kit_ty hb, g, .bl b'⟩⟩
end

/-! ### sorted(set(xs)) of corners -/
def insC (c : Co) : List Co → List Co
  | [] => [c]
  | a :: l => if c = a then a :: l else if Tri.lt c a then c :: a :: l else a :: insC c l
/-- the corners of a list, strictly in order -/
def srt (l : List Co) : List Co := l.foldr insC []
theorem insC_mem {c x : Co} : ∀ {l : List Co}, x ∈ insC c l ↔ x = c ∨ x ∈ l
  | [] => by simp [insC]
  | a :: l => by
    unfold insC
    by_cases h : c = a
    · rw [if_pos h]; subst h; simp
    · rw [if_neg h]
      by_cases h2 : Tri.lt c a
      · rw [if_pos h2]; simp
      · rw [if_neg h2, List.mem_cons, insC_mem, List.mem_cons]
        constructor
        · rintro (e | e | e)
          · exact .inr (.inl e)
          · exact .inl e
          · exact .inr (.inr e)
        · rintro (e | e | e)
          · exact .inr (.inl e)
          · exact .inl e
          · exact .inr (.inr e)
theorem lt_tr {a b c : Co} (h : Tri.lt a b) (k : Tri.lt b c) : Tri.lt a c := by unfold Tri.lt at *; omega
theorem insC_sorted {c : Co} : ∀ {l : List Co}, l.Pairwise Tri.lt → (insC c l).Pairwise Tri.lt
  | [], _ => by simp [insC]
  | a :: l, h => by
    unfold insC
    by_cases e : c = a
    · rw [if_pos e]; exact h
    · rw [if_neg e]
      rw [List.pairwise_cons] at h
      by_cases h2 : Tri.lt c a
      · rw [if_pos h2, List.pairwise_cons]
        refine ⟨fun x hx => ?_, List.pairwise_cons.mpr h⟩
        rcases List.mem_cons.mp hx with q | q
        · rw [q]; exact h2
        · exact lt_tr h2 (h.1 x q)
      · rw [if_neg h2, List.pairwise_cons]
        refine ⟨fun x hx => ?_, insC_sorted h.2⟩
        rcases insC_mem.mp hx with q | q
        · rw [q]; exact (Tri.lt_or e).resolve_left h2
        · exact h.1 x q
theorem srt_mem {x : Co} {l : List Co} : x ∈ srt l ↔ x ∈ l := by
  unfold srt
  induction l with
  | nil => simp
  | cons a l ih => rw [List.foldr_cons, insC_mem, ih, List.mem_cons]
theorem srt_sorted (l : List Co) : (srt l).Pairwise Tri.lt := by
  unfold srt
  induction l with
  | nil => simp
  | cons a l ih => rw [List.foldr_cons]; exact insC_sorted ih
/-- two strictly sorted lists of the same members are one -/
theorem sorted_ext : ∀ {l m : List Co}, l.Pairwise Tri.lt → m.Pairwise Tri.lt → (∀ x, x ∈ l ↔ x ∈ m) → l = m
  | [], [], _, _, _ => rfl
  | [], b :: m, _, _, h => absurd ((h b).mpr (List.mem_cons_self ..)) (by simp)
  | a :: l, [], _, _, h => absurd ((h a).mp (List.mem_cons_self ..)) (by simp)
  | a :: l, b :: m, h1, h2, h => by
    rw [List.pairwise_cons] at h1 h2
    have e : a = b := by
      rcases List.mem_cons.mp ((h a).mp (List.mem_cons_self ..)) with q | q
      · exact q
      · rcases List.mem_cons.mp ((h b).mpr (List.mem_cons_self ..)) with q' | q'
        · exact q'.symm
        · exact absurd (h1.1 b q') (Tri.lt_not (h2.1 a q))
    subst e
    congr 1
    refine sorted_ext h1.2 h2.2 fun x => ?_
    constructor
    · intro hx
      rcases List.mem_cons.mp ((h x).mp (List.mem_cons_of_mem _ hx)) with q | q
      · subst q; exact absurd (h1.1 x hx) Tri.lt_irr
      · exact q
    · intro hx
      rcases List.mem_cons.mp ((h x).mpr (List.mem_cons_of_mem _ hx)) with q | q
      · subst q; exact absurd (h2.1 x hx) Tri.lt_irr
      · exact q
section
variable {T : List (Addr × Str)} {X : Cx} {ε : List Sl} {e a b c o value : Expr} {pos pos' p p2 apos : Pos}
theorem co_ints {P : Program} {w : World} {K : PySem.W.Frag} {H : Hp} {v : V} {c : Co} (h : Da P w K H v (cD c)) : ∃ t, v = .ref t ∧ H t = some (.tup [.int c.1, .int c.2]) := by
  cases h with
  | @tup t xs _ h1 a1 =>
    cases a1 with
    | cons x1 a1 => cases a1 with
      | cons x2 a1 => cases a1; cases x1; cases x2; exact ⟨t, rfl, h1⟩
theorem cos_ints {P : Program} {w : World} {K : PySem.W.Frag} {H : Hp} : ∀ {l : List Co} {vs : List V}, DaAll P w K H vs (cL l) → ∃ ks : List (Addr × List Int), vs = ks.map (fun p => V.ref p.1) ∧ ks.map (·.2) = l.map (fun c => [c.1, c.2]) ∧ ∀ p ∈ ks, SqT K H p.1 (p.2.map V.int)
  | [], _, h => by cases h; exact ⟨[], rfl, rfl, fun p hp => by cases hp⟩
  | c :: l, _, h => by
    have h : DaAll P w K H _ (cD c :: cL l) := h
    cases h with
    | cons a b =>
      obtain ⟨t, rfl, ht⟩ := co_ints a
      obtain ⟨ks, rfl, e2, e3⟩ := cos_ints b
      refine ⟨(t, [c.1, c.2]) :: ks, rfl, by rw [List.map_cons, List.map_cons, e2], fun p hp => ?_⟩
      rcases List.mem_cons.mp hp with q | q
      · rw [q]; exact SqT.of ht
      · exact e3 p q
theorem da_of_ints {P : Program} {w : World} {K : PySem.W.Frag} {H : Hp} : ∀ {ks : List (Addr × List Int)} {l : List Co}, (∀ p ∈ ks, H p.1 = some (.tup (p.2.map V.int))) → ks.map (·.2) = l.map (fun c => [c.1, c.2]) → DaAll P w K H (ks.map fun p => V.ref p.1) (cL l)
  | [], [], _, _ => .nil
  | [], _ :: _, _, e => by simp at e
  | _ :: _, [], _, e => by simp at e
  | p :: ks, c :: l, h, e => by
    rw [List.map_cons, List.map_cons] at e
    injection e with e1 e2
    have hp := h p (List.mem_cons_self ..)
    rw [e1] at hp
    exact .cons (.tup hp (.cons (.int _) (.cons (.int _) .nil))) (da_of_ints (fun q hq => h q (List.mem_cons_of_mem _ hq)) e2)

theorem code_le {a b : List Int} {x y : Co} (ha : a = [x.1, x.2]) (hb : b = [y.1, y.2]) (h : TS.code 64 a ≤ TS.code 64 b) (ne : a ≠ b) (bx : 0 ≤ x.1 ∧ x.1 < 64 ∧ 0 ≤ x.2 ∧ x.2 < 64) (bY : 0 ≤ y.1 ∧ y.1 < 64 ∧ 0 ≤ y.2 ∧ y.2 < 64) : Tri.lt x y := by
  subst ha hb
  have := pair_lt h ne ⟨bx.1, bx.2.1⟩ ⟨bx.2.2.1, bx.2.2.2⟩ ⟨bY.1, bY.2.1⟩ ⟨bY.2.2.1, bY.2.2.2⟩
  exact this
theorem ks_co : ∀ {ks : List (Addr × List Int)} {l : List Co}, ks.map (·.2) = l.map (fun c => [c.1, c.2]) → ∀ p ∈ ks, ∃ c ∈ l, p.2 = [c.1, c.2]
  | [], _, _, p, hp => by cases hp
  | q :: ks, [], e, _, _ => by simp at e
  | q :: ks, c :: l, e, p, hp => by
    rw [List.map_cons, List.map_cons] at e
    injection e with e1 e2
    rcases List.mem_cons.mp hp with z | z
    · rw [z]; exact ⟨c, List.mem_cons_self .., e1⟩
    · obtain ⟨c', h1, h2⟩ := ks_co e2 p z
      exact ⟨c', List.mem_cons_of_mem _ h1, h2⟩
theorem ks_back : ∀ {ks : List (Addr × List Int)} {l : List Co}, ks.map (·.2) = l.map (fun c => [c.1, c.2]) → ∀ c ∈ l, ∃ p ∈ ks, p.2 = [c.1, c.2]
  | _, [], _, c, hc => by cases hc
  | [], c :: l, e, _, _ => by simp at e
  | q :: ks, c :: l, e, x, hx => by
    rw [List.map_cons, List.map_cons] at e
    injection e with e1 e2
    rcases List.mem_cons.mp hx with z | z
    · rw [z]; exact ⟨q, List.mem_cons_self .., e1⟩
    · obtain ⟨p, h1, h2⟩ := ks_back e2 x z
      exact ⟨p, List.mem_cons_of_mem _ h1, h2⟩
theorem co_inj {a b : Co} (h : ([a.1, a.2] : List Int) = [b.1, b.2]) : a = b := by
  injection h with h1 h2
  injection h2 with h2 _
  exact Prod.ext h1 h2
/-- a list told by its codes is the sorted list -/
theorem srt_of {L : List (Addr × List Int)} {l : List Co} (hm : ∀ p ∈ L, ∃ c ∈ l, p.2 = [c.1, c.2]) (hall : ∀ c ∈ l, ∃ p ∈ L, p.2 = [c.1, c.2]) (nd : (L.map (·.2)).Nodup) (pw : L.Pairwise fun q r => TS.code 64 q.2 ≤ TS.code 64 r.2)
    (hb : ∀ c ∈ l, 0 ≤ c.1 ∧ c.1 < 64 ∧ 0 ≤ c.2 ∧ c.2 < 64) : L.map (·.2) = (srt l).map fun c => [c.1, c.2] := by
  have ex : ∃ m : List Co, L.map (·.2) = m.map (fun c => [c.1, c.2]) ∧ (∀ c ∈ m, c ∈ l) ∧ m.Pairwise Tri.lt := by
    clear hall
    induction L with
    | nil => exact ⟨[], rfl, (fun c hc => by cases hc), List.Pairwise.nil⟩
    | cons q L ih =>
      rw [List.map_cons, List.nodup_cons] at nd
      rw [List.pairwise_cons] at pw
      obtain ⟨m, e, h1, h2⟩ := ih (fun p hp => hm p (List.mem_cons_of_mem _ hp)) nd.2 pw.2
      obtain ⟨c, hc, ec⟩ := hm q (List.mem_cons_self ..)
      refine ⟨c :: m, by rw [List.map_cons, List.map_cons, ec, e], fun x hx => ?_, List.pairwise_cons.mpr ⟨fun x hx => ?_, h2⟩⟩
      · rcases List.mem_cons.mp hx with z | z
        · rw [z]; exact hc
        · exact h1 x z
      · obtain ⟨p, hp, ep⟩ := ks_back e x hx
        exact code_le ec ep (pw.1 p hp) (fun z => nd.1 (by rw [z]; exact List.mem_map_of_mem hp)) (hb c hc) (hb x (h1 x hx))
  obtain ⟨m, e, h1, h2⟩ := ex
  rw [e]
  congr 1
  refine sorted_ext h2 (srt_sorted l) fun x => ?_
  rw [srt_mem]
  refine ⟨h1 x, fun hx => ?_⟩
  obtain ⟨p, hp, ep⟩ := hall x hx
  obtain ⟨c, hc, ec⟩ := ks_co e p hp
  rw [ep] at ec
  rw [co_inj ec]; exact hc
theorem dn_sset {l : List Co} (hu : X.A.units + 64 < cLine) (hms : X.mg "sorted" = none) (hmt : X.mg "set" = none) (ha : DE T X ε a (.lst (cL l))) (hl : l.length < 64) (hb : ∀ c ∈ l, 0 ≤ c.1 ∧ c.1 < 64 ∧ 0 ≤ c.2 ∧ c.2 < 64) (hc : X.calm = true := by rfl) (hgs : Gl X "sorted" := by rfl) (hgt : Gl X "set" := by rfl)
    (he1 : starEach [a] X.env = (false, eval a X.env) :: starEach [] X.env := by rfl) (hpl1 : (backTo pos (starEach [] X.env)).any (·.1) = false := by rfl)
    (he : starEach [.Call (.Name "set" p) [a] [] pos] X.env = (false, eval (.Call (.Name "set" p) [a] [] pos) X.env) :: starEach [] X.env := by rfl) (hpl : (backTo pos' (starEach [] X.env)).any (·.1) = false := by rfl) :
    DN T X ε (.Call (.Name "sorted" p2) [.Call (.Name "set" p) [a] [] pos] [] pos') (cL (srt l)) :=
  .of (pe_callB (cr_sortedT hc) hgs hms (by decide +kernel) (pa_cons (pe_callTy (cr_setOfT hc hu) hgt hmt (by decide +kernel) (pa_cons ha.pe pa_nil he1) (by decide) (by decide) he1 hpl1) pa_nil he) (by decide) (by decide) he hpl) fun σ H H0 ev =>
    ⟨H0, ev, fun v H1 ⟨g, hv⟩ => by
      cases hv with
      | @lst q xs _ h1 a1 =>
        obtain ⟨ks, e1, e2, e3⟩ := cos_ints a1
        subst e1
        have kl : ks.length = l.length := by rw [← List.length_map (f := (·.2)) (as := ks), e2, List.length_map]
        refine ⟨q, ks, rfl, SqL.of h1, e3, by rw [kl]; exact hl, fun s L hs hL1 hL2 => ?_⟩
        have g2 : Ex H1 (upd H1 s (SetTO X.prog X.w s L)) := Ex.new hs
        have tup : ∀ p ∈ ks, H1 p.1 = some (.tup (p.2.map V.int)) := by
          intro p hp
          obtain ⟨i, hi, ei⟩ := List.mem_iff_getElem.mp hp
          have hi2 : i < l.length := by rw [← kl]; exact hi
          obtain ⟨v, q1, q2⟩ := a1.get (i := i) (d := cD (l[i])) (by unfold cL; rw [List.getElem?_map, List.getElem?_eq_getElem hi2]; rfl)
          rw [List.getElem?_map, List.getElem?_eq_getElem hi] at q1
          simp at q1
          subst q1
          obtain ⟨t, et, ht⟩ := co_ints q2
          have et : ks[i].1 = t := V.ref.inj et
          have e4 : ks[i].2 = [(l[i]).1, (l[i]).2] := by
            have := congrArg (fun z => z[i]?) e2
            simp [List.getElem?_map, hi, hi2] at this
            exact this
          rw [← ei, et, e4]; exact ht
        refine ⟨s, L, 2, 64, rfl, upd_same, fun p hp => SqT.of (g2.keep _ _ (tup p (hL1 p hp)) (fun _ z => by cases z)), by decide, fun p hp => ?_, fun L' p pm nd hf pw hp => ?_⟩
        · obtain ⟨c, hc, ec⟩ := ks_co e2 p (hL1 p hp)
          rw [ec]
          obtain ⟨b1, b2, b3, b4⟩ := hb c hc
          refine ⟨rfl, ?_⟩
          intro z hz
          have hz : z = c.1 ∨ z = c.2 := by simpa using hz
          rcases hz with z1 | z1 <;> rw [z1] <;> constructor <;> assumption
        · have e5 := srt_of (L := L') (l := l) (fun p hp => ks_co e2 p (hL1 p (pm.mem_iff.mp hp))) (fun c hc => by
            obtain ⟨p, hp, ep⟩ := ks_back e2 c hc
            obtain ⟨r, hr, er⟩ := List.mem_map.mp (hL2 p hp)
            exact ⟨r, pm.mem_iff.mpr hr, by rw [er]; exact ep⟩) nd pw hb
          have t2 : ∀ p ∈ L', upd H1 s (SetTO X.prog X.w s L) p.1 = some (.tup (p.2.map V.int)) := fun p hp => g2.keep _ _ (tup p (hL1 p (pm.mem_iff.mp hp))) (fun _ z => by cases z)
          exact newL ev (g.trans g2) (da_of_ints t2 e5) (imm_cL _) p hp⟩
end
end Cp
end
section
set_option maxHeartbeats 4000000
/-! sorted by a lambda's key. -/
namespace Cp
open PySem PySem.Spec PyProof.Rows L2 LamX PySem.W
section
variable {X : Cx} {pins : List (Addr × Obj)} {σ : L2.St} {H : Hp} {s : Shared}
theorem ex_table {P c' : Addr} {ps more : Array Value} {h : H P = some (.tbl ps)} (nC : H c' = none) (ht : ∀ T, Tb T H → Tb T (upd (upd H P (.tbl (ps ++ more))) c' (CodeO c' lamQ))) : Ex H (upd (upd H P (.tbl (ps ++ more))) c' (CodeO c' lamQ)) := by
  refine ⟨fun b o e n => ?_, fun b qs e => ?_, ht⟩
  · rw [upd_ne (ne_of_none e nC), upd_ne (fun z => n ps (Option.some.inj (e.symm.trans (by rw [z]; exact h))))]
    exact e
  · rw [upd_ne (ne_of_none e nC)]
    by_cases z : b = P
    · subst z; exact ⟨_, upd_same⟩
    · exact ⟨qs, by rw [upd_ne z]; exact e⟩
/-- the lambda is made -/
theorem lam_make3 {T : List (Addr × Str)} {c P : Addr} {params : Arguments} {body : Expr} {scope : Scope} {pos : Pos} {E : Value → Shared → Prop} {Q : Value → Shared → Prop} (I : Inv X pins σ H s) (TB : TabB X.base X.mg c P) (hcode : X.env.code = .ref c)
    (hq : X.env.qual ++ "<lambda>" = lamQ) (hm : (P, lamQ) ∈ T) (hT : Tb T H) (hdef : defaultsOf params X.env = ([], [])) (hfree : ∀ y ∈ scope.names, y.2 = .free → ∃ c, X.env.cells.lookup y.1 = some c)
    (h : ∀ (f c' : Addr) (pm ctv : Value) (H1 : Hp) (s' : Shared), Inv X pins σ H1 s' → Ex H H1 →
      s'.heap.get? f = some (kla_obj "<lambda>" lamQ params body scope (cloFrom X.env.cells scope.names []) pm c' ctv) → FpOk X pins H1 f → H1 c' = some (CodeO c' lamQ) → Q (.ref f) s') :
    wpAny (model X.prog X.w) X.A (eval (.Lambda params body scope pos) X.env) Q E s := by
  obtain ⟨ps, hP, ht, ha⟩ := hT.tabs _ hm
  refine kla_eval hdef ?_
  have bP : s.heap.BuiltinsAt X.mg P := TB.bm.keeps I.bk
  have hP' : s.heap.get? P = some { cls := .none, data := .fields ps } := I.hok P _ hP
  cases hc : codeAmong pos ps.toList with
  | none =>
    refine kla_makeFunction (mg := X.mg) (c := c) (P := P) (ps := ps) (closure_ok hfree) I.ok.glob (I.mod.glob.keeps I.bk) hcode (TB.code.keeps I.bk) hP' ht hc TB.gP bP fun c' ctv h' tk hx hge hlt hrec htb => ?_
    rw [hq] at hrec ⊢
    obtain ⟨c2, oc, vs, t, e2, hoc, hd, hv⟩ := hrec
    cases e2
    have hsz : s.heap.objs.size ≤ h'.objs.size := Nat.le_trans hge (Nat.le_of_lt hlt)
    have nC : H c' = none := I.hok.fresh hge
    have I1 := inv_table (q := lamQ) (t' := tk) (more := #[rawInt pos.line, rawInt pos.col, .ref c']) (h' := h'.push (kla_obj "<lambda>" lamQ params body scope (cloFrom X.env.cells scope.names []) ((X.mg "__name__").getD .none) c' ctv)) I hP
      (fun b o hb e => Heap.get?_push_of_some _ (hx b o hb e)) (Heap.get?_push_of_some _ htb) hge ⟨oc, vs, t, Heap.get?_push_of_some _ hoc, hd, hv⟩
    have eL : (ps ++ #[rawInt pos.line, rawInt pos.col, .ref c']).toList = ps.toList ++ [rawInt pos.line, rawInt pos.col, .ref c'] := by simp
    have code_keep : ∀ {c0 : Addr} {q : Str}, H c0 = some (CodeO c0 q) → upd (upd H P (.tbl (ps ++ #[rawInt pos.line, rawInt pos.col, .ref c']))) c' (CodeO c' lamQ) c0 = some (CodeO c0 q) := fun {c0 q} e => by
      rw [upd_ne (ne_of_none e nC), upd_ne]
      · exact e
      · intro z; rw [z, hP] at e; exact codeO_ne ps (Option.some.inj e).symm
    have tabs : ∀ T', Tb T' H → Tb T' (upd (upd H P (.tbl (ps ++ #[rawInt pos.line, rawInt pos.col, .ref c']))) c' (CodeO c' lamQ)) := fun T' t' => by
      refine ⟨t'.ok, fun p hp => ?_⟩
      obtain ⟨ps', a1, a2, a3⟩ := t'.tabs p hp
      by_cases hb : p.1 = P
      · rw [hb] at a1 ⊢
        rw [hP] at a1; cases a1
        refine ⟨_, by rw [upd_ne (ne_of_none hP nC), upd_same], by rw [eL]; exact PySem.TriplesOk_snoc _ _ _ _ ht, fun p' cv hcv => ?_⟩
        rw [eL] at hcv
        rcases among_app _ ht hcv with z | z
        · obtain ⟨c0, e1, e2⟩ := a3 p' cv z
          exact ⟨c0, e1, code_keep e2⟩
        · rw [t'.ok p hp]; exact ⟨c', z, upd_same⟩
      · refine ⟨ps', by rw [upd_ne (ne_of_none a1 nC), upd_ne hb]; exact a1, a2, fun p' cv hcv => ?_⟩
        obtain ⟨c0, e1, e2⟩ := a3 p' cv hcv
        exact ⟨c0, e1, code_keep e2⟩
    refine h h'.objs.size c' ((X.mg "__name__").getD .none) ctv _ _ I1 (ex_table (h := hP) nC tabs) (Heap.get?_push_size _ rfl) (I.fpOk hsz ?_) upd_same
    have n1 : h'.objs.size ≠ c' := Nat.ne_of_gt hlt
    have n2 : h'.objs.size ≠ P := Nat.ne_of_gt (Nat.lt_of_lt_of_le (Heap.lt_size hP') hsz)
    rw [upd_ne n1, upd_ne n2]
    exact I.hok.fresh hsz
  | some cv =>
    obtain ⟨c', e, hco⟩ := ha pos cv hc
    subst e
    refine kla_makeFunctionHit (mg := X.mg) (c := c) (P := P) (ps := ps) (closure_ok hfree) I.ok.glob (I.mod.glob.keeps I.bk) hcode (TB.code.keeps I.bk) hP' ht hc bP fun ctv h' tk hx hsz => ?_
    rw [hq]
    have I1 : Inv X pins σ H { s with heap := h'.push (kla_obj "<lambda>" lamQ params body scope (cloFrom X.env.cells scope.names []) ((X.mg "__name__").getD .none) c' ctv), toks := tk } := I.kept fun b o e => Heap.get?_push_of_some _ (hx b o e)
    exact h h'.objs.size c' ((X.mg "__name__").getD .none) ctv H _ I1 (Ex.refl H) (Heap.get?_push_size _ rfl) (I.fpOk hsz (I.hok.fresh hsz)) hco
/-- the context of the lambda's body -/
abbrev lamY (X : Cx) (scope : Scope) (N : List Str) (f c' : Addr) (A : Around) (s : Shared) (H : Hp) : Cx := (cxOf CX0 X.prog X.w X.K X.mg X.base N lamQ scope f (.ref c') A X.stack s H E0).nox
/-- a lambda of one name, called from the sort -/
theorem lam_run {T : List (Addr × Str)} {N : List Str} {params : Arguments} {body : Expr} {scope : Scope} {f c' : Addr} {pm ctv u : Value} {x : V} {d kd' : Dt} {k : Nat} {nm : Str} {E : Value → Shared → Prop} (I : Inv X pins σ H s) (S : FnScope N [nm] scope)
    (hf : s.heap.get? f = some (kla_obj "<lambda>" lamQ params body scope [] pm c' ctv)) (hco : H c' = some (CodeO c' lamQ)) (hbind : ∀ u, bindArgs (kla_fn "<lambda>" lamQ params body scope [] pm (.ref c') ctv) ⟨[u], []⟩ = pure [(nm, u)])
    (rx : RelV x u) (hr : Room (k + 3) X.A) (hd : Da X.prog X.w X.K H x d) (t : Tb T H)
    (hb : ∀ (s : Shared) (H : Hp), Room k (X.A.in1.in1.deeper (envOfC lamQ scope s.heap.objs.size f (.ref c'))) → DE T (lamY X scope N f c' X.A.in1.in1 s H) (.val d :: List.replicate (N.length - 1) .no) body kd') :
    wpAny (model X.prog X.w) X.A.in1.in1 (call (.ref f) [u]) (EP X pins σ (fun v H' => Ex H H' ∧ Da X.prog X.w X.K H' v kd')) E s := by
  have hr2 : Room (k + 1) X.A.in1.in1 := (hr.in1).in1
  have e0 : Env0 X.prog X.w X.K X.mg X.base X.A.in1.in1 X.stack s H := I.env0.in1.in1
  obtain ⟨⟨oc, vs, tt, hoc, hdc, hvc⟩, _, _⟩ := I.hok c' _ hco
  have KX : X.K.In s.heap := I.kIn
  have lim : s.heap.NoLimit := I.nolimit
  have hkind : ∀ y ∈ [(nm, u)], scope.names.lookup y.1 = some .local ∨ (scope.names.lookup y.1 = some .cell ∧ ((cellsFrom (s.heap.objs.size + 1) scope.names []).lookup y.1).isSome = true) := fun y hy => by
    have hy : y = (nm, u) := by simpa using hy
    subst hy
    rcases S.par nm (List.mem_cons_self ..) with q | q
    · exact .inl q
    · exact .inr ⟨q, PySem.W.cellsFrom_some _ _ _ (.inl q)⟩
  have rc : codeAny (model X.prog X.w) X.A.in1.in1 (.call (.ref f) ⟨[u], []⟩) (CR CX0 X.stack X.prog X.w H s (fun v H' => Ex H H' ∧ Da X.prog X.w X.K H' v kd') E0) s := by
    refine kla_callFunE hr2.depth hf rfl S.co S.gen rfl ⟨c', oc, vs, tt, rfl, hoc, hdc, hvc⟩ ?_
    rw [hbind]
    refine wpAny_pure (wpAny_newFunctionEnv_cells S.kind hkind fun env he s1 xx => ?_)
    subst he
    refine ⟨lim.keeps xx.toInCall.keep, ?_⟩
    show codeAny _ _ (.expr body (envOfC lamQ scope s.heap.objs.size f (.ref c'))) _ _
    have J : Inv (cxOf CX0 X.prog X.w X.K X.mg X.base N lamQ scope f (.ref c') X.A.in1.in1 X.stack s H E0) [] (L2.start N [x]) H s1 := inv_start S hr2.hd e0 rfl (.cons rx .nil) xx
    have ev : EnvOk X.prog X.w X.K T H H (L2.start N [x]) (.val d :: List.replicate (N.length - 1) .no) := by
      have no : noOwn (.val d :: List.replicate (N.length - 1) .no) = true := noOwn_start [d] _
      refine ⟨?_, ?_, ?_, ?_⟩
      · rw [owns_no no, cut_nil]; exact Ex.refl H
      · rw [owns_no no, cut_nil]; exact t
      · rw [owns_no no]; exact List.nodup_nil
      · rw [owns_no no, cut_nil]
        exact paired_start (.cons hd .nil) _
    refine kla_codeExpr (wpAny_mono ((hb s H (hr2.deeper _)).pe.nox.run [] _ _ H _ J ⟨H, ev, fun v H' q => q⟩) (fun v s' hq => ?_) fun e s' hq => hq)
    obtain ⟨w', H', J', rv, q⟩ := hq
    exact ⟨w', H', J'.os, J'.bare, J'.base, J'.hok, rv, q⟩
  refine wpAny_call (codeAny_mono rc fun r s' hq => ?_)
  cases r with
  | error e => exact False.elim hq
  | ok fl =>
    cases fl with
    | ret u => exact I.after hq
    | next => exact False.elim hq
    | brk => exact False.elim hq
    | cont => exact False.elim hq
end
end Cp
end
section
set_option maxHeartbeats 4000000
/-! sorted by a lambda's key: the sort. -/
namespace Cp
open PySem PySem.Spec PyProof.Rows L2 LamX PySem.W
section
variable {X : Cx} {pins : List (Addr × Obj)} {σ : L2.St} {H : Hp} {s : Shared}
/-- objects of one's own turned, one of them tracked from now on -/
theorem Inv.turnedTrack {t' : Nat} {h' : Heap} {ch : List Addr} {a : Addr} {ob : HO} (I : Inv X pins σ H s) (k : ∀ b o, b ∉ ch → s.heap.get? b = some o → h'.get? b = some o) (hf : ∀ b ∈ ch, FpOk X pins H b) (ha : a ∈ ch)
    (new : ObjOk X.prog X.w (upd H a ob) h' a ob) : Inv X pins σ (upd H a ob) { s with heap := h', toks := t' } := by
  have hn : H a = none := (hf a ha).1
  have nit : ∀ b u, H b = some u → b ∉ ch := fun b u e z => by
    have q := (hf b z).1
    rw [q] at e; cases e
  refine L2.Inv.step I (g' := s.gens) (d' := s.drawn) (ch := ch) (fun b hb => ⟨(hf b hb).2.2.2.1, (hf b hb).2.1, (hf b hb).2.2.2.2.1, (hf b hb).2.2.2.2.2⟩) (fun b o _ _ hc e _ => k b o hc e) (fun b o _ _ hc e _ => ⟨o.slots, k b o hc e⟩)
    (fun b o hc e n => ?_) (fun b o hc e => ⟨o, k b o hc e⟩) (fun b xs e => ?_) (fun b o u e => ?_) (fun b ps e => ⟨#[], ?_⟩) (fun m hm => ?_) (fun b u e => ?_) I.bare
  · rw [upd_ne (fun z => hc (by rw [z]; exact ha))]; exact n
  · rw [upd_ne (ne_of_none e hn)]; exact e
  · rw [upd_ne (ne_of_none e hn)]; exact e
  · rw [upd_ne (ne_of_none e hn), e]; simp
  · obtain ⟨o, es, ep, ho, r⟩ := hm
    exact ⟨o, es, ep, k _ o (fun z => (hf _ z).2.1 rfl) ho, r⟩
  · by_cases hb : b = a
    · subst hb
      rw [upd_same] at e
      cases e
      exact new
    · rw [upd_ne hb] at e
      refine (I.hok b u e).stay (fun c v hc q => k c v ?_ q) (fun c q => by rw [upd_ne (ne_of_none q hn)]; exact q) fun c xs q => by rw [upd_ne (ne_of_none q hn)]; exact q
      rcases hc with z | z
      · rw [z]; exact nit b u e
      · exact nit c _ z
def dleK (kf : Dt → Dt) (a b : Dt) : Bool := dataLe false (fun d => py (kf d)) a b
theorem msort_mapK (kf : Dt → Dt) (ps : List (V × Dt)) : (ps.mergeSort (dataLe false fun p => py (kf p.2))).map (·.2) = (ps.map (·.2)).mergeSort (dleK kf) :=
  List.map_mergeSort fun a _ b _ => rfl
theorem each_py {us : List Value} {ps : List (V × Dt)} {ks : List Dt} (I : Inv X pins σ H s) (e : EachIs (RVD X.prog X.w X.K H) us ps) (h : ps.map (·.2) = ks) (hp : plAll ks = true) : EachIs (fun v d => ∃ as, Reads s.heap v d as) us (ks.map py) := by
  have := each_map (R := fun v d => ∃ as, Reads s.heap v d as) (fun p : V × Dt => py p.2) (rvd_reads I e (by rw [h]; exact hp))
  rw [map_py ps h] at this
  exact this
theorem key_sort {pins : List (Addr × Obj)} {ds : List Dt} {kf : Dt → Dt} {l fa : Addr} {fo : Obj} {Q : VK} (hu : X.A.units + 64 < cLine) (I : Inv X ((fa, fo) :: pins) σ H s) (hl : Da X.prog X.w X.K H (.ref l) (.lst ds)) (ok : SortOk (ds.map kf))
    (turn : ∀ (pins' : List (Addr × Obj)) (s : Shared) (H' : Hp) (x : V) (u : Value) (d : Dt), Inv X pins' σ H' s → Ex H H' → d ∈ ds → RelV x u → Da X.prog X.w X.K H' x d → (fa, fo) ∈ pins' →
      wpAny (model X.prog X.w) X.A.in1.in1 (call (.ref fa) [u]) (EP X pins' σ (fun v H2 => Ex H' H2 ∧ Da X.prog X.w X.K H2 v (kf d))) (fun _ _ => False) s)
    (q : ∀ p vs H', Ex H H' → H' p = none → DaAll X.prog X.w X.K H' vs (ds.mergeSort (dleK kf)) → Q (.ref p) (upd H' p (.lst vs))) :
    wpAny (model X.prog X.w) X.A (call (.builtin "sorted") [.ref l] [(Str.ofString "key", .ref fa)]) (EP X pins σ Q) X.xe s := by
  cases hl with
  | @lst _ xs _ h1 a1 =>
    obtain ⟨its, rv, hl, hz⟩ := I.list (SqL.of h1)
    have hil : its.length = ds.length := by rw [← rv.length, a1.length]
    have hdl : ds.length ≤ 100000 := by have := ok.len; rw [List.length_map] at this; exact this
    have hZ : its.length ≤ sizeLine := by rw [hil, sizeLine_eq]; omega
    refine sorted_of_sort hl.isList hZ (ksk_s1 _ _) (fun _ => ksk_l1 _ _) fun E' => ?_
    rw [ksk_t1]
    have ho := copyHeap_at s.heap its
    obtain ⟨e1, ho1⟩ : ∃ e1, ((copyHeap s.heap its).update (s.heap.objs.size + 1) (Obj.mapSeq fun _ => (#[] : Array Value))).get? (s.heap.objs.size + 1) = some (seqObj "list" #[] e1) := ⟨_, get?_update_seq ho fun _ => #[]⟩
    have ha : s.heap.objs.size + 1 < (copyHeap s.heap its).objs.size := Heap.lt_size ho
    have hkS : (((copyHeap s.heap its).update (s.heap.objs.size + 1) (Obj.mapSeq fun _ => (#[] : Array Value))).push (seqObj "tuple" its.toArray 0)).objs.size = (copyHeap s.heap its).objs.size + 1 := by rw [size_push', Heap.size_update]
    unfold ksk_tree
    refine wpAny_bind (listItems_at ho rfl ?_)
    refine wpAny_bind (listUpdate_at ho rfl ?_ (by rw [List.size_toArray]; exact hZ) (Nat.zero_le _))
    refine wpAny_bind (seqEpoch_at ho1 rfl ?_)
    refine wpAny_bind (wpAny_newTuple ?_ (by show its.length ≤ _; exact hZ))
    refine wpAny_bind (wpAny_newList ?_ (Nat.zero_le _))
    refine wpAny_holding ?_
    have nk0 := Heap.get?_push_size (((copyHeap s.heap its).update (s.heap.objs.size + 1) (Obj.mapSeq fun _ => (#[] : Array Value))).push (seqObj "tuple" its.toArray 0)) (o := seqObj "list" #[] 0) rfl
    have na0 : ((((copyHeap s.heap its).update (s.heap.objs.size + 1) (Obj.mapSeq fun _ => (#[] : Array Value))).push (seqObj "tuple" its.toArray 0)).push (seqObj "list" #[] 0)).get? (s.heap.objs.size + 1) = some (seqObj "list" #[] e1) := Heap.get?_push_of_some _ (Heap.get?_push_of_some _ ho1)
    have kp0 : ∀ b o, s.heap.get? b = some o → ((((copyHeap s.heap its).update (s.heap.objs.size + 1) (Obj.mapSeq fun _ => (#[] : Array Value))).push (seqObj "tuple" its.toArray 0)).push (seqObj "list" #[] 0)).get? b = some o := fun b o e => sorting_copy_old e
    have hleS : s.heap.objs.size ≤ (((copyHeap s.heap its).update (s.heap.objs.size + 1) (Obj.mapSeq fun _ => (#[] : Array Value))).push (seqObj "tuple" its.toArray 0)).objs.size := by
      rw [hkS]; exact Nat.le_of_lt (Nat.lt_succ_of_lt (Nat.lt_trans (Nat.lt_succ_self _) ha))
    have hne : (((copyHeap s.heap its).update (s.heap.objs.size + 1) (Obj.mapSeq fun _ => (#[] : Array Value))).push (seqObj "tuple" its.toArray 0)).objs.size ≠ s.heap.objs.size + 1 := by
      rw [hkS]; exact Nat.ne_of_gt (Nat.lt_succ_of_lt ha)
    generalize (((copyHeap s.heap its).update (s.heap.objs.size + 1) (Obj.mapSeq fun _ => (#[] : Array Value))).push (seqObj "tuple" its.toArray 0)).objs.size = kS at nk0 hleS hne ⊢
    generalize ((((copyHeap s.heap its).update (s.heap.objs.size + 1) (Obj.mapSeq fun _ => (#[] : Array Value))).push (seqObj "tuple" its.toArray 0)).push (seqObj "list" #[] 0)) = h3 at nk0 na0 kp0 ⊢
    have hle1 : s.heap.objs.size ≤ s.heap.objs.size + 1 := Nat.le_succ _
    have fa0 := I.fpOk (H' := H) hle1 (I.hok.fresh hle1)
    have fk0 := I.fpOk (H' := H) hleS (I.hok.fresh hleS)
    generalize s.heap.objs.size + 1 = a at na0 hne fa0 ⊢
    have I3 : Inv X ((fa, fo) :: pins) σ H { s with heap := h3 } := I.kept (t' := s.toks) kp0
    have nocell : ∀ (xs : Array Value) (n : Nat), ∀ v, (seqObj "list" xs n).data ≠ .cell v := fun xs n v z => by cases z
    have pin2 : ∀ {H' : Hp} {s' : Shared} {xs : Array Value} {n : Nat} {pins' : List (Addr × Obj)} {b : Addr}, Inv X pins' σ H' s' → FpOk X ((fa, fo) :: pins) H' b → s'.heap.get? b = some (seqObj "list" xs n) → Inv X ((b, seqObj "list" xs n) :: pins') σ H' s' := fun {H' s' xs n pins' b} J f e => by
      refine J.pins_of fun p hp => ?_
      rcases List.mem_cons.mp hp with z | z
      · rw [z]; exact ⟨e, f.1, f.2.1, f.2.2.1, nocell _ _⟩
      · exact J.pin p (List.mem_append_right _ z)
    have I4 := pin2 I3 fa0 na0
    unfold ksk_rest
    refine wpAny_bind (wpAny_rule ?_)
    first
      | rw [List.forIn_toArray]
      | (rw [← Array.forIn_toList]; simp only [List.toList_toArray])
      | rw [← Array.forIn_toList]
    refine wpAny_bind (ksk_fold (fun i s' => ∃ H' kA e ys, Inv X ((a, seqObj "list" #[] e1) :: (fa, fo) :: pins) σ H' s' ∧ Ex H H' ∧ H' kS = none ∧ s'.heap.get? kS = some (seqObj "list" kA e) ∧ Vals ys kA.toList ∧ DaAll X.prog X.w X.K H' ys ((ds.map kf).take i)) its 0 { s with heap := h3 }
      ⟨H, #[], 0, [], I4, Ex.refl H, fk0.1, nk0, .nil, by rw [List.take_zero]; exact .nil⟩ ?step ?done)
    case step =>
      rintro j u s' hj ⟨H', kA, e, ys, J, g, hk0, nk, vy, dy⟩
      simp only [Nat.zero_add] at dy ⊢
      have hjl : j < its.length := (List.getElem?_eq_some_iff.mp hj).1
      have hjd : j < ds.length := by rw [← hil]; exact hjl
      have hjx : j < xs.length := by rw [a1.length]; exact hjd
      obtain ⟨d, hd, hda⟩ := a1.getV (i := j) (v := xs[j]) (by simp [hjx])
      have hrx : RelV xs[j] u := by
        obtain ⟨u', e1, e2⟩ := rv.get (i := j) (x := xs[j]) (by simp [hjx])
        rw [hj] at e1; cases e1; exact e2
      have fk : FpOk X ((fa, fo) :: pins) H' kS := ⟨hk0, fk0.2⟩
      have J3 := pin2 J fk nk
      refine wpAny_bind (wpAny_attempt (wpAny_mono (turn _ s' H' _ u d J3 g (List.mem_of_getElem? hd) hrx (hda.ex g) (by simp)) (fun v s'' he => ?_) fun _ _ hF => hF.elim))
      obtain ⟨vv, H2, J2, rvv, g2, hv⟩ := he
      try dsimp only
      obtain ⟨nk2, hk2, _⟩ := J2.pin (kS, seqObj "list" kA e) (List.mem_append_right _ (List.mem_cons_self ..))
      have nk2 : s''.heap.get? kS = some (seqObj "list" kA e) := nk2
      have hk2 : H2 kS = none := hk2
      have hkl : kA.size = j := by
        have h1 : ys.length = kA.size := by rw [L2.Vals.length vy]; simp
        have h2 := dy.length
        rw [List.length_take, List.length_map] at h2
        omega
      obtain ⟨c2, hc2⟩ : ∃ c2, (s''.heap.update kS (Obj.mapSeq (·.push v))).get? kS = some (seqObj "list" (kA.push v) c2) := ⟨_, get?_update_seq nk2 (·.push v)⟩
      have sb := Heap.SameBut.update s''.heap kS (Obj.mapSeq (·.push v))
      refine wpAny_bind (listUpdate_at nk2 rfl ?_ (by rw [hkl]; omega) (by show (kA.push v).size ≤ _; rw [Array.size_push, hkl]; omega))
      have J4 : Inv X ((a, seqObj "list" #[] e1) :: (fa, fo) :: pins) σ H2 s'' := J2.pins_of fun p hp => J2.pin p (List.mem_append_right _ (List.mem_cons_of_mem _ hp))
      have J5 : Inv X ((a, seqObj "list" #[] e1) :: (fa, fo) :: pins) σ H2 { s'' with heap := s''.heap.update kS (Obj.mapSeq (·.push v)) } := J4.turned (t' := s''.toks) (it := kS) (fun b o hb e => (sb.2 b hb).trans e) hk2 fk0.2.1 fk0.2.2.2.1 fk0.2.2.2.2.1 fun p hp => by
        rcases List.mem_append.mp hp with z | z
        · exact fk0.2.2.2.2.2 p (List.mem_append_left _ z)
        · rcases List.mem_cons.mp z with z | z
          · rw [z]; exact Ne.symm hne
          · exact fk0.2.2.2.2.2 p (List.mem_append_right _ z)
      have ek : (ds.map kf).take (j + 1) = (ds.map kf).take j ++ [kf d] := by rw [List.take_add_one, List.getElem?_map, hd]; simp
      have ea : (kA.push v).toList = kA.toList ++ [v] := by simp
      refine wpAny_pure ⟨rfl, H2, kA.push v, c2, ys ++ [vv], J5, g.trans g2, hk2, hc2, ?_, ?_⟩
      · rw [ea]; exact vy.append (.cons rvv .nil)
      · rw [ek]; exact (dy.ex g2).app (.one hv)
    case done =>
      rintro s' ⟨H', kA, e, ys, J, g, hk0, nk, vy, dy⟩
      rw [Nat.zero_add, List.take_of_length_le (by rw [List.length_map, hil]; exact Nat.le_refl _)] at dy
      try dsimp only
      refine wpAny_bind (listItems_at nk rfl ?_)
      have na := (J.pin (a, seqObj "list" #[] e1) (List.mem_append_right _ (List.mem_cons_self ..))).1
      have na : s'.heap.get? a = some (seqObj "list" #[] e1) := na
      have hHa : H' a = none := (J.pin (a, seqObj "list" #[] e1) (List.mem_append_right _ (List.mem_cons_self ..))).2.1
      obtain ⟨ps, p1, p2, p3⟩ := rvd_zip vy dy
      have er := each_py J p1 p3 ok.pl
      obtain ⟨G, g1, g2⟩ := restrict s'.heap fun b => decide (b ≠ kS)
      have kpG : KeepsBut a G s'.heap := fun b o _ hb => by
        by_cases z : b = kS
        · rw [g2 b (by simp [z])] at hb; cases hb
        · rw [g1 b (by simp [z])] at hb; exact hb
      have hsz : kA.size = its.length := by
        have h1 : ys.length = kA.size := by rw [L2.Vals.length vy]; simp
        have h2 := dy.length
        rw [List.length_map] at h2
        omega
      refine keyH_end (κ := dataKind s'.heap ((ds.map kf).map py)) (h₁ := G) (b := false) (vs := its) kpG (g2 kS (by simp)) nk na hne (SortsAt.data er ok.al ok.st fun d hd => ?_) hsz hZ fun h4 tk4 c k4 n4 => ⟨rfl, ?_⟩
      · obtain ⟨x, hx, rfl⟩ := List.mem_map.mp hd
        have := ok.dp x hx
        show X.A.units + 2 + _ < _
        omega
      · have KO : KeyedOut false ((ds.map kf).map py) its (sortVals (dataKind s'.heap ((ds.map kf).map py)) false kA.toList its) := ⟨s'.heap, kA.toList, ok.al, rfl, er⟩
        obtain ⟨bs, b1, b2, b3⟩ := rvd_zip rv (a1.ex g)
        have eb : bs.map (fun p : V × Dt => py (kf p.2)) = (ds.map kf).map py := by rw [← b3, List.map_map, List.map_map]; rfl
        have hE := keyedOut_each (fun p : V × Dt => py (kf p.2)) (by rw [eb]; exact KO) b1
        obtain ⟨o1, o2⟩ := rvd_back hE
        rw [msort_mapK, b3] at o2
        have J0 : Inv X pins σ H' s' := J.pins_of fun p hp => J.pin p (List.mem_append_right _ (List.mem_cons_of_mem _ (List.mem_cons_of_mem _ hp)))
        have more : ∀ p, p ∈ X.pn ++ pins → p ∈ X.pn ++ ((fa, fo) :: pins) := fun p hp => (List.mem_append.mp hp).elim (fun z => List.mem_append_left _ z) fun z => List.mem_append_right _ (List.mem_cons_of_mem _ z)
        have fpa : FpOk X pins H' a := ⟨hHa, fa0.2.1, fa0.2.2.1, fa0.2.2.2.1, fa0.2.2.2.2.1, fun p hp => fa0.2.2.2.2.2 p (more p hp)⟩
        have fpk : FpOk X pins H' kS := ⟨hk0, fk0.2.1, fk0.2.2.1, fk0.2.2.2.1, fk0.2.2.2.2.1, fun p hp => fk0.2.2.2.2.2 p (more p hp)⟩
        have keep4 : ∀ b o, b ∉ [a, kS] → s'.heap.get? b = some o → h4.get? b = some o := fun b o hb e => by
          have hb1 : b ≠ a := fun z => hb (by simp [z])
          have hb2 : b ≠ kS := fun z => hb (by simp [z])
          exact k4 b o hb1 (by rw [g1 b (by simp [hb2])]; exact e)
        refine ⟨.ref a, upd H' a (.lst _), Inv.turnedTrack (t' := tk4) J0 keep4 (fun b hb => ?_) (List.mem_cons_self ..) ⟨?_, _, c, o1, n4⟩, rfl, q a _ H' g hHa o2⟩
        · have hb : b = a ∨ b = kS := by simpa using hb
          rcases hb with z | z
          · rw [z]; exact fpa
          · rw [z]; exact fpk
        · rw [o2.length, List.length_mergeSort, sizeLine_eq]; omega
end
section
variable {T : List (Addr × Str)} {X : Cx} {ε : List Sl} {e : Expr} {pos p kpos lpos : Pos} {ds : List Dt}
/-- sorted(e, key=lambda nm: body) -/
theorem dn_sortedKey {k : Nat} {kf : Dt → Dt} {c P : Addr} {nm : Str} {N : List Str} {params : Arguments} {body : Expr} {scope : Scope} (TB : TabB X.base X.mg c P) (hcode : X.env.code = .ref c) (hq : X.env.qual ++ "<lambda>" = lamQ) (hmT : (P, lamQ) ∈ T) (hr : Room (k + 3) X.A)
    (hms : X.mg "sorted" = none) (he : DE T X ε e (.lst ds)) (ok : SortOk (ds.map kf)) (i : (immAll ds || noOwn ε) = true) (S : FnScope N [nm] scope) (hclo : ∀ cells, cloFrom cells scope.names [] = [])
    (hfree : ∀ y ∈ scope.names, y.2 ≠ .free) (hdef : defaultsOf params X.env = ([], [])) (hbind : ∀ c' pm ctv u, bindArgs (kla_fn "<lambda>" lamQ params body scope [] pm (.ref c') ctv) ⟨[u], []⟩ = pure [(nm, u)])
    (hb : ∀ (f c' : Addr) (s : Shared) (H : Hp) (d : Dt), d ∈ ds → Room k (X.A.in1.in1.deeper (envOfC lamQ scope s.heap.objs.size f (.ref c'))) → DE T (lamY X scope N f c' X.A.in1.in1 s H) (.val d :: List.replicate (N.length - 1) .no) body (kf d))
    (hg : Gl X "sorted" := by rfl)
    (hbe : backTo pos (starEach [e] X.env) = (false, eval e X.env) :: backTo pos (starEach [] X.env) := by rfl) (hs1 : starEach [e] X.env = (false, eval e X.env) :: starEach [] X.env := by rfl) (hpl : (backTo pos (starEach [e] X.env)).any (·.1) = false := by rfl)
    (hall : (backToKw pos (keywordEach [⟨some "key", .Lambda params body scope lpos, kpos⟩] X.env)).all (·.1.isSome) = true := by rfl) (hnone : (backToKw pos (keywordEach [⟨some "key", .Lambda params body scope lpos, kpos⟩] X.env)).any (·.1.isNone) = false := by rfl)
    (hks : (backToKw pos (keywordEach [⟨some "key", .Lambda params body scope lpos, kpos⟩] X.env)).filterMap (·.1) = [Str.ofString "key"] := by rfl) : DN T X ε (.Call (.Name "sorted" p) [e] [⟨some "key", .Lambda params body scope lpos, kpos⟩] pos) (ds.mergeSort (dleK kf)) := by
  refine ⟨fun pins s σ H H0 I ev => ?_⟩
  refine wpAny_Call_Name_kw (ld_blt (u := .builtin "sorted") I hg hms (by decide +kernel) ?_ (by decide) (by decide))
  refine PyProof.Rows.callWith_kw (thn ((pa_cons he.pe pa_nil hs1).run pos pins s σ H (fun vs H1 => ∃ v, vs = [v] ∧ Ex H H1 ∧ Da X.prog X.w X.K H1 v (.lst ds)) I ⟨H0, ev, fun v H1 ⟨g, hv⟩ => ⟨v, rfl, g, hv⟩⟩) fun us s1 ⟨vs, H1, I1, r1, v, evs, g1, hv⟩ => ?_) hbe hpl hall hnone
  subst evs
  obtain ⟨u, eu, ru⟩ := vals1 r1
  subst eu
  have tb : Tb T H1 := g1.tabs T ev.tabs
  show wpAny _ _ (evalAll ((do let v ← eval (.Lambda params body scope lpos) X.env; standAt pos; pure v) :: [])) _ _ s1
  refine wpAny_evalAll_cons (wpAny_bind (lam_make3 I1 TB hcode hq hmT tb hdef (fun y hy e => absurd e (hfree y hy)) fun f c' pm ctv H2 s2 I2 g2 hf fp hco => ?_))
  rw [hclo] at hf
  refine wpAny_bind (wpAny_standAt (wpAny_pure ?_))
  refine wpAny_evalAll_nil ?_
  rw [hks]
  have hv2 := hv.ex g2
  have tb2 : Tb T H2 := g2.tabs T tb
  have I3 : Inv X ((f, kla_obj "<lambda>" lamQ params body scope [] pm c' ctv) :: pins) σ H2 s2 := I2.pins_of fun q hq => by
    rcases List.mem_cons.mp hq with z | z
    · rw [z]; exact ⟨hf, fp.1, fp.2.1, fp.2.2.1, fun v z => by cases z⟩
    · exact I2.pin q (List.mem_append_right _ z)
  cases hv2 with
  | @lst l xs _ h1 a1 =>
    cases (show u = Value.ref l from ru)
    have hu := hr.units
    refine key_sort hu I3 (.lst h1 a1) ok (fun pins' s3 H3 x u d J g3 hd rx hx hp => ?_) fun q vs H3 g3 hq hvs => ?_
    · have hf3 := (J.pin _ (List.mem_append_right _ hp)).1
      exact lam_run J S hf3 (g3.keep _ _ hco codeO_ne) (hbind c' pm ctv) rx hr hx (g3.tabs T tb2) fun s4 H4 hr4 => hb f c' s4 H4 d hd hr4
    · refine newLN ev ((g1.trans g2).trans g3) hvs ?_ q hq
      rw [Bool.or_eq_true] at i ⊢
      exact i.imp (immAll_perm (List.mergeSort_perm ds (dleK kf))) id
end
end Cp
end
section
set_option maxHeartbeats 4000000
/-! != of equal dicts; comprehensions with two loops. -/
namespace Cp
open PySem PySem.Spec PyProof.Rows L2 LamX
section
variable {prog : Program} {w : World} {A : Around} {E : Value → Shared → Prop} {s : Shared}
/-- two dicts of equal entries -/
theorem samePairs_eq {nm : String} {a b : Addr} {xs ys : List (NK × Addr × Value)} {Q : Bool → Shared → Prop} (hu : A.units + 8 < cLine) (ha : (a == sysModules) = false) (hb : (b == sysModules) = false) (da : s.heap.DictOfH (nestedKind prog w) a xs) (db : s.heap.DictOfH (nestedKind prog w) b ys)
    (hl : xs.length = ys.length) (hv : ∀ x ∈ xs, ∃ i t c u, x.2.2 = .int i t ∧ (x.1, c, .int i u) ∈ ys) (h : Q true s) : wpAny (model prog w) A (Builtin.Dict.samePairs nm a b) Q E s := by
  obtain ⟨oa, es, ep, hoa, _, hda, hea, hia, hna⟩ := da
  obtain ⟨ob, es', ep', hob, _, hdb, heb, hib, hnb⟩ := db
  have za := size_of_entries hea
  have zb := size_of_entries heb
  unfold Builtin.Dict.samePairs Builtin.Dict.showsAll
  rw [if_neg (show ¬ (a == sysModules) = true by rw [ha]; exact Bool.false_ne_true), if_neg (show ¬ (b == sysModules) = true by rw [hb]; exact Bool.false_ne_true)]
  refine wpAny_bind (wpAny_pure (wpAny_bind (wpAny_pure ?_)))
  refine wpAny_bind (wpAny_dictEntries hoa hda ?_)
  dsimp only
  refine wpAny_bind (wpAny_dictEntries hob hdb ?_)
  have hsz : es.size = es'.size := by rw [za, zb, hl]
  rw [if_neg (by rw [hsz]; simp)]
  refine wpAny_bind (wpAny_dictEpoch hoa hda ?_)
  refine wpAny_bind ?_
  rw [Std.Legacy.Range.forIn_eq_forIn_range']
  simp only [Std.Legacy.Range.size, Nat.sub_zero, Nat.add_sub_cancel, Nat.div_one]
  refine wpAny_forIn_list _ (fun rest q s' => s' = s ∧ q = (none, ()) ∧ ∃ i, rest = List.range' i (es.size - i) ∧ i ≤ es.size) _ ?_ ?_ _ _ ⟨rfl, rfl, 0, by simp, Nat.zero_le _⟩
  · rintro x rest q s' ⟨rfl, rfl, i, hr, hi⟩
    have hlt : i < es.size := by
      rcases Nat.lt_or_ge i es.size with h | h
      · exact h
      · rw [Nat.sub_eq_zero_of_le h] at hr; simp at hr
    obtain ⟨rfl, hrest⟩ : x = i ∧ rest = List.range' (i + 1) (es.size - (i + 1)) := by
      have e : es.size - i = (es.size - (i + 1)) + 1 := by omega
      rw [e, List.range'_succ] at hr
      injection hr with h1 h2
      exact ⟨h1, h2⟩
    have hltx : x < xs.length := by rw [← za]; exact hlt
    refine wpAny_bind (wpAny_dictEntries hoa hda ?_)
    have ee := entry_at hea x
    rw [Array.getElem?_eq_getElem hlt, List.getElem?_eq_getElem hltx, Option.map_some] at ee
    have ee' := Option.some.inj ee
    rw [Array.getElem?_eq_getElem hlt, ee']
    obtain ⟨v, t, c, u, hv1, hv2⟩ := hv xs[x] (List.getElem_mem hltx)
    show wpAny _ _ (holding [.ref xs[x].2.1, xs[x].2.2] _ >>= _) _ _ _
    refine wpAny_bind (wpAny_holding (wpAny_bind (wpAny_dictFind_heap (knd := nestedKind prog w) (show A.units + 8 < cLine from hu) (hia _ (List.getElem_mem hltx)) hob hdb heb hib hnb (fun hno => ?_) fun j p hj => ?_)))
    · obtain ⟨j, hj⟩ := List.getElem?_of_mem hv2
      exact absurd hj (hno j _)
    · obtain ⟨j', hj'⟩ := List.getElem?_of_mem hv2
      have ej := idxH_unique hnb hj hj'
      subst ej
      rw [hj] at hj'
      have hp : p = (c, Value.int v u) := by
        have := Option.some.inj hj'
        exact (Prod.ext_iff.mp this).2
      have hj2 : j < es'.size := by rw [zb]; exact (List.getElem?_eq_some_iff.mp hj).1
      have ef := entry_at heb j
      rw [hj, Array.getElem?_eq_getElem hj2] at ef
      have ef' : es'[j] = entryOfKey (nestedKind prog w) (xs[x].1, p) := Option.some.inj ef
      refine wpAny_bind (wpAny_dictEntries hob hdb ?_)
      rw [Array.getElem?_eq_getElem hj2, ef']
      show wpAny _ _ (holding [p.2] (eqBool xs[x].2.2 p.2)) _ _ _
      rw [hp, hv1]
      refine wpAny_holding (wpAny_eqBool_int ?_)
      show wpAny _ _ (if (!(v == v)) = true then _ else _) _ _ _
      rw [if_neg (by simp)]
      refine wpAny_bind (wpAny_dictEpoch hoa hda ?_)
      rw [if_neg (by simp)]
      exact wpAny_pure ⟨rfl, rfl, x + 1, hrest, hlt⟩
  · rintro q s' ⟨rfl, rfl, i, hr, hi⟩
    exact wpAny_pure h
theorem ne_dicts {a b : Addr} {xs ys : List (NK × Addr × Value)} {Q : Value → Shared → Prop} (hu : A.units + 9 < cLine) (ha : (a == sysModules) = false) (hb : (b == sysModules) = false) (da : s.heap.DictOfH (nestedKind prog w) a xs) (db : s.heap.DictOfH (nestedKind prog w) b ys)
    (hl : xs.length = ys.length) (hv : ∀ x ∈ xs, ∃ i t c u, x.2.2 = .int i t ∧ (x.1, c, .int i u) ∈ ys) (h : Q (.bool false) s) : wpAny (model prog w) A (compareOp .NotEq (.ref a) (.ref b)) Q E s := by
  refine wpAny_richCompare_same_room (op := .NotEq) da.typeIs db.typeIs PySem.F.slot_dict_ne (wpAny_call_entry PySem.F.slot_dict_ne da.typeIs PySem.F.entry_dict_ne ?_ (PySem.F.args_dict_ne_2 _ _)) (by omega)
  show wpAny _ _ (Builtin.Dict.dictSlotArgs "__ne__" ⟨[.ref a, .ref b], []⟩ >>= _) _ _ s
  refine wpAny_bind ?_
  unfold Builtin.Dict.dictSlotArgs
  refine wpAny_bind (wpAny_notOrdered_dict da.typeIs ?_)
  show wpAny _ _ (pure (Value.ref a, Value.ref b)) _ _ s
  refine wpAny_pure ?_
  refine wpAny_bind (wpAny_isInstance (T := "dict") db.typeIs PySem.F.sub_dict_dict ?_)
  simp only [Bool.not_true, Bool.false_eq_true, if_false]
  refine wpAny_bind (wpAny_pure (wpAny_bind (wpAny_pure ?_)))
  refine wpAny_bind (samePairs_eq (by show A.units + 1 + 8 < cLine; omega) ha hb da db hl hv ?_)
  refine wpAny_pure ⟨_, rfl, ?_, ?_⟩
  · exact fun x => nomatch x
  · simpa using h
end
section
variable {X : Cx} {kvs kws : List (NK × Dt)}
theorem kvs_mem {P : Program} {w : World} {K : PySem.W.Frag} {H : Hp} {es : List (NK × Addr × V)} {kvs : List (NK × Dt)} {ys : List (NK × Addr × Value)} (r : DaKvs P w K H es kvs) (f : Paired FE es ys) : ∀ x ∈ ys, ∃ d v, (x.1, d) ∈ kvs ∧ RelV v x.2.2 ∧ Da P w K H v d := by
  match r, f with
  | .nil, .nil => intro x hx; cases hx
  | @DaKvs.cons _ _ _ _ k' b v d es kvs h1 h2 h3 t, .cons (b := q) g tt =>
    intro x hx
    rcases List.mem_cons.mp hx with e | hx
    · subst e
      obtain ⟨g1, g2, g3⟩ := g
      exact ⟨d, v, by rw [← g1]; exact List.mem_cons_self .., g3, h3⟩
    · obtain ⟨d', v', q1, q2⟩ := kvs_mem t tt x hx
      exact ⟨d', v', List.mem_cons_of_mem _ q1, q2⟩
theorem kvs_mem2 {P : Program} {w : World} {K : PySem.W.Frag} {H : Hp} {es : List (NK × Addr × V)} {kvs : List (NK × Dt)} {ys : List (NK × Addr × Value)} (r : DaKvs P w K H es kvs) (f : Paired FE es ys) : ∀ p ∈ kvs, ∃ x ∈ ys, ∃ v, x.1 = p.1 ∧ RelV v x.2.2 ∧ Da P w K H v p.2 := by
  match r, f with
  | .nil, .nil => intro x hx; cases hx
  | @DaKvs.cons _ _ _ _ k' b v d es kvs h1 h2 h3 t, .cons (b := q) g tt =>
    intro p hp
    rcases List.mem_cons.mp hp with e | hp
    · subst e
      obtain ⟨g1, g2, g3⟩ := g
      exact ⟨q, List.mem_cons_self .., v, g1.symm, g3, h3⟩
    · obtain ⟨x, q1, v', q2⟩ := kvs_mem2 t tt p hp
      exact ⟨x, List.mem_cons_of_mem _ q1, v', q2⟩
/-- two dicts of the same whole numbers -/
theorem c_neDic (hu : X.A.units + 64 < cLine) (hl : kvs.length = kws.length) (hv : ∀ p ∈ kvs, ∃ i, p.2 = .int i ∧ (p.1, .int i) ∈ kws) : CmpD X .NotEq (.dic kvs) (.dic kws) false := by
  refine ⟨fun x y H Q => Da X.prog X.w X.K H x (.dic kvs) ∧ Da X.prog X.w X.K H y (.dic kws) ∧ Q (.bl false) H, fun pins s σ H x y v u Q I rx ry ⟨h1, h2, q⟩ => ?_, fun x y H Q hx hy k => ⟨hx, hy, k H (Ex.refl H)⟩⟩
  cases h1 with
  | @dic a es _ h1 a1 n l sm =>
    cases h2 with
    | @dic b es' _ h2 a2 n' l' sm' =>
      cases (show v = Value.ref a from rx)
      cases (show u = Value.ref b from ry)
      obtain ⟨ys, f, dd⟩ := do_of I.hok h1 a1 n
      obtain ⟨zs, f', dd'⟩ := do_of I.hok h2 a2 n'
      refine ne_dicts (by omega) sm sm' dd dd' (by rw [← Paired.length f, ← Paired.length f', kvs_length a1, kvs_length a2, hl]) (fun x hx => ?_) ⟨.bl false, H, I, rfl, q⟩
      obtain ⟨d, v, m1, rv, hd⟩ := kvs_mem a1 f x hx
      obtain ⟨i, e, m2⟩ := hv _ m1
      have e : d = .int i := e
      subst e
      cases hd
      obtain ⟨t, et⟩ := (show ∃ t, x.2.2 = Value.int i t from rv)
      obtain ⟨x', mx, v', ek, rv', hd'⟩ := kvs_mem2 a2 f' _ m2
      cases hd'
      obtain ⟨u, eu⟩ := (show ∃ t, x'.2.2 = Value.int i t from rv')
      refine ⟨i, t, x'.2.1, u, et, ?_⟩
      have : (x.1, x'.2.1, Value.int i u) = x' := by rw [← eu]; exact Prod.ext ek.symm rfl
      rw [this]; exact mx
end
end Cp
end
section
set_option maxHeartbeats 4000000
/-! Comprehensions with two loops. -/
namespace Cp
open PySem PySem.Spec PyProof.Rows L2 LamX
section
variable {T : List (Addr × Str)} {X : Cx} {ε : List Sl} {elt tg iter tg1 iter1 : Expr} {scope : Scope} {pos : Pos}
def outs2 (m : Nat → Nat) (fd : Nat → Nat → Dt) (n : Nat) : List Dt := ((List.range n).map fun i => (List.range (m i)).map (fd i)).flatten
theorem outs2_succ {m : Nat → Nat} {fd : Nat → Nat → Dt} {n : Nat} : outs2 m fd (n + 1) = outs2 m fd n ++ (List.range (m n)).map (fd n) := by
  unfold outs2
  rw [List.range_succ, List.map_append, List.flatten_append]; simp
theorem outs2_len {m : Nat → Nat} {fd : Nat → Nat → Dt} {B : Nat} : ∀ n, (∀ i, i < n → m i ≤ B) → (outs2 m fd n).length ≤ n * B
  | 0, _ => by simp [outs2]
  | n + 1, h => by
    rw [outs2_succ, List.length_append, List.length_map, List.length_range, Nat.succ_mul]
    have := outs2_len n (fun i hi => h i (by omega)) (fd := fd)
    have := h n (by omega)
    omega
/-- slots of data without lists -/
def nolstE (ε : List Sl) : Bool := ε.all fun s => match s with
  | .no => true
  | .val d => d.nolst
  | _ => false
theorem nolstE_no {ε : List Sl} (h : nolstE ε = true) : noOwn ε = true := by
  unfold noOwn nolstE at *
  rw [List.all_eq_true] at *
  intro s hs
  have := h s hs
  cases s <;> first | rfl | (simp at this)
/-- the list at D may change -/
theorem EnvOk.other {P : Program} {w : World} {K : PySem.W.Frag} {H0 H H' : Hp} {σ : L2.St} {D : Addr} {acc : List V} (ev : EnvOk P w K T H0 H σ ε) (hn : nolstE ε = true) (hD : H D = some (.lst acc)) (hD' : ∃ acc', H' D = some (.lst acc')) (g : Ex (cut [D] H) (cut [D] H')) : EnvOk P w K T H' H' σ ε := by
  have no := nolstE_no hn
  obtain ⟨acc', hD'⟩ := hD'
  have k : ∀ b o, H b = some o → NL o → H' b = some o := fun b o e nl => by
    have e1 := nl_cut hD b o e nl
    have e2 := g.keep b o e1 (fun ps z => by
      subst z
      rcases nl with ⟨_, z⟩ | ⟨P, w, a, es, z⟩ | ⟨_, _, _, z⟩
      · cases z
      · exact dictO_tbl P w ps z.symm
      · cases z)
    exact cut_sub b o e2
  refine ⟨?_, ?_, ?_, ?_⟩
  · rw [owns_no no, cut_nil]; exact Ex.refl H'
  · rw [owns_no no, cut_nil]
    exact (g.tabs T (tabs_cut (own_one hD) T ev.tabs)).ext cut_sub
  · rw [owns_no no]; exact List.nodup_nil
  · have sl := ev.sl
    rw [owns_no no, cut_nil] at sl ⊢
    unfold nolstE at hn
    clear ev no
    induction sl with
    | nil => exact .nil
    | @cons v s vs ss h t ih =>
      rw [List.all_cons, Bool.and_eq_true] at hn
      refine .cons ?_ (ih hn.2)
      cases s with
      | no => trivial
      | val d => obtain ⟨x, q, r⟩ := h; exact ⟨x, q, r.monoN k hn.1⟩
      | ol ds => simp at hn
      | od kvs => simp at hn
      | oo a C fs => simp at hn
theorem dn_lc2 {a1 : Expr} {p1 pos1 : Pos} {wi : TI} {n : Nat} {items : Nat → Dt} {own : List (Str × Nat)} {vs1 js js1 : List Nat} {f f1 : Nat → List Sl → List Sl} {B : Nat} (m : Nat → Nat) (fd : Nat → Nat → Dt) (hm : X.mg "range" = none) (hi : DI T X ε tg iter n items wi) (hN : X.N.Nodup) (ok : BlkOk X.N X.env.scope scope own) (hv : ∀ i ∈ vs1, i ∈ own.map (·.2))
    (ht : ∀ i, i < n → BAll X scope (fun Y => DTg T Y tg (items i) js (f i))) (hj : ∀ j ∈ js, j ∈ own.map (·.2))
    (hgr : BAll X scope fun Y => Gl Y "range") (hsr : BAll X scope fun Y => starEach [a1] Y.env = [(false, eval a1 Y.env)])
    (hi1 : ∀ i, i < n → BAll X scope (fun Y => DE T Y (f i (wipeE ε (own.map (·.2)))) a1 (.int (m i : Nat))))
    (ht1 : ∀ i j, i < n → j < m i → BAll X scope (fun Y => DTg T Y tg1 (.int (j : Nat)) js1 (f1 j))) (hj1 : ∀ j ∈ js1, j ∈ vs1)
    (he : ∀ i j, i < n → j < m i → BAll X scope (fun Y => DE T Y (f1 j (wipeE (f i (wipeE ε (own.map (·.2)))) vs1)) elt (fd i j))) (himm : ∀ i j, (fd i j).imm = true) (hne : ∀ i, i < n → nolstE (f i (wipeE ε (own.map (·.2)))) = true) (hB : ∀ i, i < n → m i ≤ B) (hn : n * B < 200000)
    (hc : X.calm = true := by rfl) (hs : ∀ x, foldedSetIterable iter X.env x = pure x := by intro _; rfl) : DN T X ε (.ListComp elt [⟨tg, iter, [], 0⟩, ⟨tg1, .Call (.Name "range" p1) [a1] [] pos1, [], 0⟩] scope pos) (outs2 m fd n) := by
  have himmO : ∀ k, immAll (outs2 m fd k) = true := fun k => immAll_of fun d hd => by
    unfold outs2 at hd
    obtain ⟨l, hl, hdl⟩ := List.mem_flatten.mp hd
    obtain ⟨i, _, rfl⟩ := List.mem_map.mp hl
    obtain ⟨j, _, rfl⟩ := List.mem_map.mp hdl
    exact himm i j
  have pr : BAll X scope fun Y => PI Y tg1 (.Call (.Name "range" p1) [a1] [] pos1) (iRng1 (tCons (eAny T X scope a1) tNil)) := fun s H C cl fp =>
    pi_range1 (hgr s H C cl fp) hm (pa_cons (pe_any (T := T) s H C cl fp) pa_nil (by rw [hsr s H C cl fp]; rfl)) (hsr s H C cl fp)
  refine .of (pe_lc2 hc hN hi.pi ok hv (pg_any (T := T)) (pts_any (T := T)) pr (pg_any (T := T)) (pts_any (T := T)) (pe_any (T := T)) hs (fun _ _ => rfl)) fun σ H H0 ev => hi.rd σ H H0 ev _ fun J H1 G Y g w hG hY D hD => ?_
  have ev1 := ev.grow g
  have start : LcP X H1 D (outs2 m fd 0) (upd H1 D (.lst [])) := by
    refine ⟨[], upd_same, ?_, .nil⟩
    have : cut [D] (upd H1 D (.lst [])) = H1 := by
      funext b
      by_cases hb : b = D
      · subst hb; rw [cut_in (by simp), hD]
      · rw [cut_out (by simpa using hb), upd_ne hb]
    rw [this]; exact Ex.refl H1
  have toEx : ∀ {ds : List Dt} {H' : Hp}, LcP X H1 D ds H' → Ex H1 H' := fun {ds H'} ⟨acc, h1, h2, h3⟩ => h2.trans cut_sub.ex
  refine ⟨fun i k H => k = n - i ∧ i ≤ n ∧ LcP X H1 D (outs2 m fd i) H, ⟨n, by simp, Nat.zero_le _, start⟩, ?_⟩
  rintro i k H' ⟨rfl, hi', p⟩
  have gx : Ex H1 H' := toEx p
  have c1 := cut_ex ev1.own gx
  have hGG := hG (owns σ ε) H' c1
  by_cases hlt : i < n
  · refine .inr ⟨w.goes i H' hlt hGG, LcP X H1 D (outs2 m fd (i + 1)), fun H' p' => ⟨n - (i + 1), by omega, rfl, hlt, p'⟩, fun x H'' yy => ?_⟩
    have y := w.yields i H' x H'' hlt hGG yy
    have ev' := ev1.grow gx
    obtain ⟨g2, hx⟩ := hY (owns σ ε) i H' x H'' hlt c1 ev'.own y
    have ev2 := ev'.grow g2
    obtain ⟨w1, w2⟩ := ev2.wipe (own.map (·.2))
    have p2 := p.grow g2
    refine ⟨items i, js, f i, wipeE ε (own.map (·.2)), _, ht i hlt, w1.rebase, hx.ex (cut_sub_of w2).ex, fun σ3 H3 ev3 sb g3 => ⟨wipe_same sb hj, ?_⟩⟩
    have p3 := p2.grow g3
    refine ⟨f i (wipeE ε (own.map (·.2))), true, _, fun _ _ _ _ _ => dts_nil, ev3, fun H4 g4 => ?_⟩
    have p4 := p3.grow g4
    have ev4 := ev3.grow g4
    show if true = true then _ else _
    rw [if_pos rfl]
    refine ⟨_, gE X (.int (m i : Nat)), _, hi1 i hlt, ev4, fun v H5 ⟨g5, hv5⟩ => ?_⟩
    cases hv5
    have p5 := p4.grow g5
    have ev5 := ev4.grow g5
    have lenB : (outs2 m fd i).length ≤ i * B := outs2_len i fun q hq => hB q (by omega)
    have mB := hB i hlt
    have iB : (i + 1) * B ≤ n * B := Nat.mul_le_mul_right _ hlt
    have iB2 : (i + 1) * B = i * B + B := Nat.succ_mul i B
    have nB : n ≤ n * B ∨ B = 0 := by
      rcases Nat.eq_zero_or_pos B with z | z
      · exact .inr z
      · exact .inl (Nat.le_mul_of_pos_right n z)
    have gA : Ex H1 H5 := toEx p5
    have c5 : Ex (cut [D] H5) (cut [D] H5) := Ex.refl _
    refine ⟨(m i : Nat), rfl, by omega, by omega, fun j k H => k = m i - j ∧ j ≤ m i ∧ Ex (cut [D] H5) (cut [D] H) ∧ LcP X H1 D (outs2 m fd i ++ (List.range j).map (fd i)) H, ⟨m i, by simp, Nat.zero_le _, c5, by simpa using p5⟩, ?_⟩
    rintro j k H6 ⟨rfl, hj', g6, p6⟩
    -- what the slots know stands in the heap without D
    obtain ⟨acc5, d5, -, -⟩ := p5
    obtain ⟨acc6, d6, -, -⟩ := id p6
    have g56 : Ex H1 H6 := toEx p6
    have ev6 := ev5.other (hne i hlt) d5 ⟨acc6, d6⟩ g6
    by_cases hlt2 : j < m i
    · refine .inr ⟨by show j < (((m i : Nat) : Int)).toNat; rw [Int.toNat_natCast]; exact hlt2, fun H' => Ex (cut [D] H5) (cut [D] H') ∧ LcP X H1 D (outs2 m fd i ++ (List.range (j + 1)).map (fd i)) H', fun H' ⟨q1, q2⟩ => ⟨m i - (j + 1), by omega, rfl, hlt2, q1, q2⟩, ?_⟩
      rintro x7 H7 ⟨e7, e8⟩
      subst e7 e8
      obtain ⟨v1, v2⟩ := ev6.wipe vs1
      have hz : (0 : Int) + (j : Nat) = (j : Nat) := Int.zero_add _
      rw [hz]
      refine ⟨_, js1, f1 j, wipeE (f i (wipeE ε (own.map (·.2)))) vs1, _, ht1 i j hlt hlt2, v1.rebase, .int _, fun σ8 H8 ev8 sb8 g8 => ⟨wipe_same sb8 hj1, ?_⟩⟩
      have p8 := p6.grow g8
      refine ⟨_, true, _, fun _ _ _ _ _ => dts_nil, ev8, fun H9 g9 => ?_⟩
      have p9 := p8.grow g9
      have ev9 := ev8.grow g9
      show if true = true then _ else _
      rw [if_pos rfl]
      refine ⟨_, gE X (fd i j), _, he i j hlt hlt2, ev9, fun v H10 ⟨g10, hv10⟩ => ?_⟩
      have p10 := p9.grow g10
      obtain ⟨acc10, d10, -, -⟩ := id p10
      have hlen : (outs2 m fd i ++ (List.range j).map (fd i)).length < 200000 := by
        rw [List.length_append, List.length_map, List.length_range]; omega
      obtain ⟨acc, a1', a2', a3'⟩ := p10.add (hv10.imm_cut (own_one d10) (himm i j)) hlen
      refine ⟨acc, a1', a2', ?_, ?_⟩
      · rw [cut_upd (by simp)]
        exact g6.trans ((cut_ex (own_one d6) ((g8.trans g9).trans g10)))
      · rw [List.range_succ, List.map_append, ← List.append_assoc]
        exact a3'
    · have e : j = m i := by omega
      subst e
      refine .inl ⟨by show (((m i : Nat) : Int)).toNat ≤ m i; rw [Int.toNat_natCast]; exact Nat.le_refl _, ?_⟩
      rw [outs2_succ]; exact p6
  · have e : i = n := by omega
    subst e
    exact .inl ⟨w.stops H' hGG, lc_new ev g hD p (by rw [himmO]; rfl)⟩
end
end Cp
end
section
set_option maxHeartbeats 4000000
/-! A dict's keys walked; a field's dict filled from another dict. -/
namespace Cp
open PySem PySem.Spec PyProof.Rows L2 LamX

def ItkN (P : Program) (w : World) (d : Addr) (o : Obj) (es : List (NK × Addr × V)) : It :=
  ⟨fun i H => H d = some (.frz o (dictO P w d es)) ∧ i < es.length, fun i H x H' => H' = H ∧ ∃ e, es[i]? = some e ∧ x = .ref e.2.1, fun i H => H d = some (.frz o (dictO P w d es)) ∧ es.length ≤ i⟩
section
variable {X : Cx} {pins : List (Addr × Obj)} {σ : L2.St} {H : Hp} {s : Shared} {d : Addr} {o : Obj} {es : List (NK × Addr × V)}
theorem frzN (I : Inv X pins σ H s) (h : H d = some (.frz o (dictO X.prog X.w d es))) :
    s.heap.get? d = some o ∧ o.ExactDict ∧ ∃ (as : Array DictEntry) (ep : Nat) (ys : List (NK × Addr × Value)), o.data = .dict as ep ∧ as.size = es.length ∧ Paired FE es ys ∧ as.toList = ys.map (entryOfKey (nestedKind X.prog X.w)) := by
  obtain ⟨hd, hx⟩ := (show s.heap.get? d = some o ∧ ObjOk X.prog X.w H s.heap d (dictO X.prog X.w d es) from I.hok d _ h)
  obtain ⟨⟨ys, f, o', as, ep, g1, g2, g3, g4⟩, _⟩ := hx
  rw [hd] at g1
  cases g1
  refine ⟨hd, g2, as, ep, ys, g3, ?_, f, g4⟩
  have l1 := congrArg List.length g4
  rw [List.length_map, Array.length_toList] at l1
  rw [l1, Paired.length f]
theorem frz_of {kvs : List (NK × Dt)} (I : Inv X pins σ H s) (h : H d = some (.frz o (dictO X.prog X.w d es))) (r : DaKvs X.prog X.w X.K H es kvs) (n : (es.map (·.1)).Nodup) : ∃ ys, Paired FE es ys ∧ s.heap.DictOfH (nestedKind X.prog X.w) d ys := by
  obtain ⟨hd, hx, as, ep, ys, g3, _, f, g4⟩ := frzN I h
  exact ⟨ys, f, o, as, ep, hd, hx, g3, g4, keys_are I.hok r f, by rw [← fe_keys f]; exact n⟩
theorem turn_keysN {P : Program} {w : World} {K : PySem.W.Frag} {tg : Expr} {as : Array DictEntry} {ep : Nat} (it : Addr) (hod : o.data = .dict as ep) : Turn P w K tg (ItkN P w d o es) [it] it (fun i h => h.IsKeyIter it d i es.length ep) where
  mem := by simp
  obj := fun i h st b hb => by
    have e : b = it := by simpa using hb
    subst e
    obtain ⟨oi, e, c, dd⟩ := st
    exact ⟨oi, e, fun v z => by rw [dd] at z; cases z⟩
  keep := fun i h h' st k => st.at fun oi e => k it (by simp) oi e
  item := by
    intro X hP hw hK hc i pins s σ H E I hf st hg
    subst hP hw hK
    obtain ⟨hd, hi⟩ := hg
    obtain ⟨f0, f1, f2, f3, f4, f5⟩ := hf it (by simp)
    obtain ⟨hgd, hx, as', ep', ys, hdt, hsz, fe, he⟩ := frzN I hd
    obtain ⟨rfl, rfl⟩ := dict_ep hod hdt
    obtain ⟨e, hkv⟩ : ∃ p, es[i]? = some p := ⟨es[i], List.getElem?_eq_getElem hi⟩
    obtain ⟨y, hy, fy⟩ := paired_get fe hkv
    have hi' : i < as'.size := by omega
    have ek : as'[i].key = Value.ref e.2.1 := by
      have h1 : as'.toList[i]? = some (entryOfKey (nestedKind X.prog X.w) y) := by rw [he, List.getElem?_map, hy]; rfl
      rw [List.getElem?_eq_getElem (by simpa using hi')] at h1
      have h2 := Option.some.inj h1
      rw [Array.getElem_toList] at h2
      rw [h2]
      show Value.ref y.2.1 = _
      rw [fy.2.1]
    rw [← hsz] at st
    refine wpAny_pyNext_keys_item_raw st ⟨o, hgd, hx, hdt⟩ hi' fun h' st' sb => ?_
    have I1 : Inv X pins σ H { s with heap := h' } := I.turned (t' := s.toks) (fun b ob hb e => (sb.2 b hb).trans e) f0 f1 f3 f4 f5
    obtain ⟨oi, e1, c, dd⟩ := id st'
    refine ⟨_, rfl, go_of (s := { s with heap := h' }) e1 c dd (by decide) ⟨.ref e.2.1, H, I1, ek, ⟨rfl, e, hkv, rfl⟩, ?_, fun b hb => (hf b hb).1⟩⟩
    show h'.IsKeyIter it d (i + 1) es.length _
    rw [← hsz]
    exact st'
  done := by
    intro X hP hw hK hc i pins s σ H E I hf st hg
    subst hP hw hK
    obtain ⟨hd, hi⟩ := hg
    obtain ⟨f0, f1, f2, f3, f4, f5⟩ := hf it (by simp)
    obtain ⟨hgd, hx, as', ep', ys, hdt, hsz, fe, he⟩ := frzN I hd
    obtain ⟨rfl, rfl⟩ := dict_ep hod hdt
    rw [← hsz] at st
    exact wpAny_pyNext_keys_end_raw (I.ok.hd hc) st ⟨o, hgd, hx, hdt⟩ (by omega) fun h' eb => ⟨rfl, I.turned (t' := s.toks) (fun b o hb e => eb b o hb e) f0 f1 f3 f4 f5⟩
  self := fun A i s Q E st h => wpAny_pyIter_keyiter st h
end
def iKeysN (X : Cx) (td : TE) : TI := fun σ H R => td σ H fun x H1 => ∃ d es, x = .ref d ∧ H1 d = some (dictO X.prog X.w d es) ∧ (d == sysModules) = false ∧ ∀ od, R (ItkN X.prog X.w d od es) (upd H1 d (.frz od (dictO X.prog X.w d es)))
theorem pi_keysN {X : Cx} {tg e : Expr} {td : TE} (he : PE X e td) : PI X tg e (iKeysN X td) := by
  refine ⟨fun pins s σ H R I h => ?_⟩
  refine thn (he.run pins s σ H _ I h) fun u s1 ⟨x, H1, I1, rx, d, es, ex, hd, hs, q⟩ => ?_
  subst ex
  obtain rfl : u = Value.ref d := rx
  obtain ⟨od, I2⟩ := I1.lock hd (by unfold dictO; exact True.intro)
  obtain ⟨hgd, hx, as, ep, ys, hdt, hsz, fe, hee⟩ := frzN I2 upd_same
  refine iter_keys hs hgd hx hdt (pi_one (tk := s1.toks) I2 _ (turn_keysN _ hdt) ⟨_, Heap.get?_push_size _ rfl, rfl, ?_⟩ (q od))
  rw [hsz] <;> rfl
theorem walk_keysN {P : Program} {w : World} {d : Addr} {o : Obj} {es : List (NK × Addr × V)} : Walk (ItkN P w d o es) es.length (fun H => H d = some (.frz o (dictO P w d es))) (fun i H x H' => H' = H ∧ ∃ e, es[i]? = some e ∧ x = .ref e.2.1) :=
  ⟨fun i H h g => ⟨g, h⟩, fun H g => ⟨g, Nat.le_refl _⟩, fun i H x H' _ _ y => y⟩
/-! ### falls[pair] -/
def tSubF (X : Cx) (fi pi : Nat) : TE := fun σ H Q => ∃ q od es kvs b ks c v, σ[fi]? = some (some (.ref q)) ∧ σ[pi]? = some (some (.ref b)) ∧ H q = some (.frz od (dictO X.prog X.w q es)) ∧ DaKvs X.prog X.w X.K H es kvs ∧ (es.map (·.1)).Nodup ∧
  Da X.prog X.w X.K H (.ref b) (kd (.tup ks)) ∧ (NestedKey.tup ks).depth ≤ 8 ∧ getE es (.tup ks) = some (c, v) ∧ Q v H
theorem pe_subF {X : Cx} {fx px : Str} {p1 p2 pos : Pos} {fi pi : Nat} (hu : X.A.units + 9 < cLine) (h1 : X.N[fi]? = some fx) (h2 : X.N[pi]? = some px) (v1 : Vis X.env.scope fx) (v2 : Vis X.env.scope px) (hd1 : (fx == ("__debug__" : Str)) = false) (hc1 : (fx == ("__classdict__" : Str)) = false) (hd2 : (px == ("__debug__" : Str)) = false) (hc2 : (px == ("__classdict__" : Str)) = false) : PE X (.Subscript (.Name fx p1) (.Name px p2) pos) (tSubF X fi pi) := by
  refine ⟨fun pins s σ H Q I ⟨q, od, es, kvs, b, ks, c, v, e1, e2, hq, a1, n, hk, h8, hg, k⟩ => ?_⟩
  refine subD_of PySem.F.slot_dict_getitem.lookup (by intro _ _; rfl) (thn ((pe_var h1 v1 hd1 hc1).run pins s σ H (fun v' H' => v' = .ref q ∧ H' = H) I ⟨_, e1, rfl, rfl⟩) fun u s1 ⟨x, H1, I1, rx, ex, eH⟩ => ?_)
  subst ex eH
  cases (show u = Value.ref q from rx)
  refine thn ((pe_var h2 v2 hd2 hc2).run pins s1 σ H1 (fun v' H' => v' = .ref b ∧ H' = H1) I1 ⟨_, e2, rfl, rfl⟩) fun u s2 ⟨x, H2, I2, rx, ex, eH⟩ => ?_
  subst ex eH
  cases (show u = Value.ref b from rx)
  obtain ⟨ys, f, dd⟩ := frz_of I2 hq a1 n
  refine ⟨dd.typeIs, ?_⟩
  have hkey := is_key I2.hok (.tup ks) (v := .ref b) (u := .ref b) hk rfl
  rcases fe_get f (.tup ks) with ⟨z, _⟩ | ⟨c', x', u', q1, q2, q3⟩
  · rw [z] at hg; cases hg
  · rw [q1] at hg; cases hg
    exact wpAny_getItem_heap (nk_room hu) ⟨hkey, h8⟩ dd q2 ⟨_, _, I2.tok _, q3, k⟩
end Cp
end
section
set_option maxHeartbeats 4000000
/-! A field's dict filled from another dict. -/
namespace Cp
open PySem PySem.Spec PyProof.Rows L2 LamX

/-- self.f[pair] = falls[pair] -/
def tBody (X : Cx) (f : Str) (fi pi : Nat) : TS := fun D σ H => ∃ a C dx gs p q od es kvs esi kvsi b ks c v, σ[0]? = some (some (.ref a)) ∧ H a = some (.ins C dx gs) ∧ Cls X.K C ∧ NoAttr X.K C f ∧ gs.lookup f = some (.ref p) ∧
  H p = some (dictO X.prog X.w p esi) ∧ DaKvs X.prog X.w X.K H esi kvsi ∧ (esi.map (·.1)).Nodup ∧ esi.length ≤ sizeLine ∧
  σ[fi]? = some (some (.ref q)) ∧ σ[pi]? = some (some (.ref b)) ∧ H q = some (.frz od (dictO X.prog X.w q es)) ∧ DaKvs X.prog X.w X.K H es kvs ∧ (es.map (·.1)).Nodup ∧
  Da X.prog X.w X.K H (.ref b) (kd (.tup ks)) ∧ (NestedKey.tup ks).depth ≤ 8 ∧ getE es (.tup ks) = some (c, v) ∧ D.nx σ (upd H p (dictO X.prog X.w p (putE esi (.tup ks) b v)))
theorem ps_body {X : Cx} {sx fx px f : Str} {p1 p2 p3 p4 p5 p6 p7 pos : Pos} {fi pi : Nat} (hu : X.A.units + 9 < cLine) (h0 : X.N[0]? = some sx) (h1 : X.N[fi]? = some fx) (h2 : X.N[pi]? = some px) (v0 : Vis X.env.scope sx) (v1 : Vis X.env.scope fx) (v2 : Vis X.env.scope px)
    (hd0 : (sx == ("__debug__" : Str)) = false) (hc0 : (sx == ("__classdict__" : Str)) = false) (hd1 : (fx == ("__debug__" : Str)) = false) (hc1 : (fx == ("__classdict__" : Str)) = false) (hd2 : (px == ("__debug__" : Str)) = false) (hc2 : (px == ("__classdict__" : Str)) = false)
    (hb : attributeBase (.Name sx p1) f X.env (eval (.Name sx p1) X.env) = eval (.Name sx p1) X.env)
    (hs : swapsWith (.Subscript (.Name fx p5) (.Name px p6) p7) (some (.Subscript (.Attribute (.Name sx p1) f p2) (.Name px p3) p4)) pos.line X.env = pure false) :
    PS X (.Assign [.Subscript (.Attribute (.Name sx p1) f p2) (.Name px p3) p4] (.Subscript (.Name fx p5) (.Name px p6) p7) pos) (tBody X f fi pi) := by
  refine ⟨fun pins s σ H D I ⟨a, C, dx, gs, p, q, od, es, kvs, esi, kvsi, b, ks, c, v, e0, ha, cl, na, lk, hp, ai, ni, li, e1, e2, hq, a1, n, hk, h8, hg, k⟩ => ?_⟩
  refine wpAny_Assign_Subscript (thn ((pe_subF hu h1 h2 v1 v2 hd1 hc1 hd2 hc2).run pins s σ H (fun v' H' => v' = v ∧ H' = H) I ⟨q, od, es, kvs, b, ks, c, v, e1, e2, hq, a1, n, hk, h8, hg, rfl, rfl⟩) fun r s1 ⟨x, H1, I1, rx, ex, eH⟩ => ?_) hs
  subst ex eH
  refine thn ((pe_fld (pe_var h0 v0 hd0 hc0) hb).run pins s1 σ H1 (fun v' H' => v' = .ref p ∧ H' = H1) I1 ⟨_, e0, a, C, dx, gs, .ref p, rfl, ha, cl, na, lk, rfl, rfl⟩) fun u s2 ⟨x', H2, I2, rx', ex, eH⟩ => ?_
  subst ex eH
  cases (show u = Value.ref p from rx')
  refine thn ((pe_var h2 v2 hd2 hc2).run pins s2 σ H2 (fun v' H' => v' = .ref b ∧ H' = H2) I2 ⟨_, e2, rfl, rfl⟩) fun u s3 ⟨x', H3, I3, rx', ex, eH⟩ => ?_
  subst ex eH
  cases (show u = Value.ref b from rx')
  exact no_setItem hu I3 hp ai ni li hk h8 rx fun s4 I4 => ⟨σ, _, I4, k⟩

section
variable {P : Program} {w : World} {K : PySem.W.Frag} {T : List (Addr × Str)} {H0 H H2 : Hp} {x : Option V} {σ : L2.St} {a C : Addr} {fs : List (Str × Dt)} {ε : List Sl}
theorem owns_one (e : EnvOk P w K T H0 H (x :: σ) (.oo a C fs :: ε)) (n : noOwn ε = true) : owns (x :: σ) (.oo a C fs :: ε) = [a] := by
  obtain ⟨y, g1, dx, gs, e1, _⟩ := pget e.sl (i := 0) rfl
  simp at g1
  subst g1 e1
  unfold owns own1 Sl.own
  rw [owns_no n]; rfl
/-- the owned instance is forgotten -/
theorem env_light (e : EnvOk P w K T H0 H (x :: σ) (.oo a C fs :: ε)) (n : noOwn ε = true) (s : Sub (cut [a] H) H2) : EnvOk P w K T H2 H2 (x :: σ) (.no :: ε) := by
  have o1 := owns_one e n
  have on : owns (x :: σ) (.no :: ε) = [] := owns_no (by unfold noOwn at n ⊢; rw [List.all_cons, n]; rfl)
  have sl := e.sl
  have tb := e.tb
  rw [o1] at sl tb
  refine ⟨by rw [on, cut_nil]; exact Ex.refl _, by rw [on, cut_nil]; exact tb.ext s, by rw [on]; exact List.nodup_nil, ?_⟩
  rw [on, cut_nil]
  refine pget_of (by have := Paired.length sl; simpa using this) fun i v t h1 h2 => ?_
  cases i with
  | zero => simp at h2; subst h2; trivial
  | succ i =>
    have h2' : (Sl.oo a C fs :: ε)[i + 1]? = some t := by simpa using h2
    obtain ⟨v', g1, g2⟩ := pget sl h2'
    rw [h1] at g1
    cases g1
    have hm : t ∈ ε := List.mem_of_getElem? (by simpa using h2)
    have ht := List.all_eq_true.mp n t hm
    cases t with
    | no => trivial
    | val d => obtain ⟨y, q, r⟩ := g2; exact ⟨y, q, r.ex s.ex⟩
    | ol _ => cases ht
    | od _ => cases ht
    | oo _ _ _ => cases ht
end
theorem getE_at {es : List (NK × Addr × V)} (n : (es.map (·.1)).Nodup) {i : Nat} {k : NK} {b : Addr} {v : V} (h : es[i]? = some (k, b, v)) : getE es k = some (b, v) := by
  unfold getE
  induction es generalizing i with
  | nil => simp at h
  | cons e es ih =>
    rw [List.map_cons, List.nodup_cons] at n
    cases i with
    | zero => simp at h; subst h; simp [List.find?_cons]
    | succ i =>
      have h' : es[i]? = some (k, b, v) := by simpa using h
      have : e.1 ≠ k := fun z => n.1 (by rw [z]; exact List.mem_map.mpr ⟨_, List.mem_of_getElem? h', rfl⟩)
      rw [List.find?_cons, decide_eq_false this]
      exact ih n.2 h'
theorem daKvs_at {P : Program} {w : World} {K : PySem.W.Frag} {H : Hp} {es : List (NK × Addr × V)} {kvs : List (NK × Dt)} (r : DaKvs P w K H es kvs) {i : Nat} {k : NK} {b : Addr} {v : V} (h : es[i]? = some (k, b, v)) :
    ∃ d, kvs[i]? = some (k, d) ∧ Da P w K H (.ref b) (kd k) ∧ k.depth ≤ 8 ∧ Da P w K H v d := by
  match r, i with
  | .nil, _ => simp at h
  | .cons h1 h2 h3 t, 0 => simp at h; obtain ⟨rfl, rfl, rfl⟩ := h; exact ⟨_, rfl, h1, h2, h3⟩
  | .cons h1 h2 h3 t, i + 1 => exact daKvs_at t (i := i) (by simpa using h)
theorem lookup_putF (f : Str) (v : V) : ∀ fs : List (Str × V), (putF f v fs).lookup f = some v
  | [] => by unfold putF; simp [List.lookup]
  | (g, x) :: r => by
    unfold putF
    by_cases e : g = f
    · subst e; rw [if_pos rfl]; simp [List.lookup]
    · rw [if_neg e, List.lookup_cons, beq_eq_false_iff_ne.mpr (fun z => e z.symm)]
      exact lookup_putF f v r
def putKs (kvs : List (NK × Dt)) (l : List (NK × Dt)) : List (NK × Dt) := l.foldl (fun k p => putD k p.1 p.2) kvs
theorem putKs_succ {kvs l : List (NK × Dt)} {i : Nat} {k : NK} {d : Dt} (h : l[i]? = some (k, d)) : putKs kvs (l.take (i + 1)) = putD (putKs kvs (l.take i)) k d := by
  unfold putKs
  rw [List.take_add_one, h, List.foldl_append]; rfl
section
variable {T : List (Addr × Str)} {X : Cx} {ε : List Sl} {e1 e2 : Expr} {P : Oc → Prop}
/-- self.f = e1; falls = e2; for pair in falls: self.f[pair] = falls[pair] -/
theorem d_last3 {sx fx px f : Str} {q1 q2 q3 q4 q5 q6 q7 q8 q9 q10 q11 q12 pos1 pos2 pos3 pos4 : Pos} {fi pi : Nat} {a C : Addr} {fs : List (Str × Dt)} {kvs1 kvs2 : List (NK × Dt)} (hu : X.A.units + 9 < cLine) (hC : Cls X.K C) (hn : NoAttr X.K C f) (hN : X.N.Nodup) (no : noOwn ε = true)
    (he1 : DD T X (.oo a C fs :: ε) e1 kvs1) (he2 : DD T X (.no :: ε) e2 kvs2) (i2 : ∀ p ∈ kvs2, p.2.imm = true) (t2 : ∀ p ∈ kvs2, ∃ ks, p.1 = .tup ks) (l12 : kvs1.length + kvs2.length ≤ 100000) (hl : fs.length < 900) (hfi : 0 < fi) (hpi : 0 < pi) (hfp : fi ≠ pi) (hfl : fi ≤ ε.length) (hpl : pi ≤ ε.length)
    (h : P (.nx (.oo a C (putG f (.dic (putKs kvs1 kvs2)) fs) :: List.replicate ε.length .no)))
    (h0 : X.N[0]? = some sx := by rfl) (h1 : X.N[fi]? = some fx := by rfl) (h2 : X.N[pi]? = some px := by rfl)
    (v0 : Vis X.env.scope sx := by first | exact Or.inl rfl | exact Or.inr (Or.inl rfl) | exact Or.inr (Or.inr rfl)) (v1 : Vis X.env.scope fx := by first | exact Or.inl rfl | exact Or.inr (Or.inl rfl) | exact Or.inr (Or.inr rfl)) (v2 : Vis X.env.scope px := by first | exact Or.inl rfl | exact Or.inr (Or.inl rfl) | exact Or.inr (Or.inr rfl))
    (l1 : Loc X.env.scope fx := by first | exact Or.inl rfl | exact Or.inr rfl) (l2 : Loc X.env.scope px := by first | exact Or.inl rfl | exact Or.inr rfl)
    (hf1 : X.fn fx = true ∨ X.env.scope.names.lookup fx = some .local := by first | exact .inl rfl | exact .inr rfl) (hf2 : X.fn px = true ∨ X.env.scope.names.lookup px = some .local := by first | exact .inl rfl | exact .inr rfl)
    (hd0 : (sx == ("__debug__" : Str)) = false := by decide) (hc0 : (sx == ("__classdict__" : Str)) = false := by decide) (hd1 : (fx == ("__debug__" : Str)) = false := by decide) (hc1 : (fx == ("__classdict__" : Str)) = false := by decide) (hd2 : (px == ("__debug__" : Str)) = false := by decide) (hc2 : (px == ("__classdict__" : Str)) = false := by decide)
    (hb : attributeBase (.Name sx q6) f X.env (eval (.Name sx q6) X.env) = eval (.Name sx q6) X.env := by rfl) (hc : X.calm = true := by rfl) (hp : PassesOwn (model X.prog X.w) X.A X.env X.xe := by exact PassesOwn.never)
    (hsf : swapsWith e1 (some (.Attribute (.Name sx q1) f q2)) pos1.line X.env = pure false := by rfl) (hse : swapsWith e2 (some (.Name fx q3)) pos2.line X.env = pure false := by rfl)
    (hsb : swapsWith (.Subscript (.Name fx q10) (.Name px q11) q12) (some (.Subscript (.Attribute (.Name sx q6) f q7) (.Name px q8) q9)) pos3.line X.env = pure false := by rfl) (hso : ∀ x, foldedSetIterable (.Name fx q5) X.env x = pure x := by intro _; rfl) :
    DSs T X (.oo a C fs :: ε) [.Assign [.Attribute (.Name sx q1) f q2] e1 pos1, .Assign [.Name fx q3] e2 pos2, .For (.Name px q4) (.Name fx q5) [.Assign [.Subscript (.Attribute (.Name sx q6) f q7) (.Name px q8) q9] (.Subscript (.Name fx q10) (.Name px q11) q12) pos3] [] pos4] P := by
  refine DSs.of (pss_cons (ps_fld (pe_var h0 v0 hd0 hc0) he1.pe hsf) (pss_cons (ps_set hN h1 l1 he2.pe hse hf1) (pss_one (ps_for hp hc (pi_keysN (pe_var h1 v1 hd1 hc1)) (pg_name hN h2 l2 hf2) (pss_one (ps_body hu h0 h1 h2 v0 v1 v2 hd0 hc0 hd1 hc1 hd2 hc2 hb hsb)) hso)))) fun σ0 H H0 ev => ?_
  match σ0, ev with
  | [], ev => exact absurd ev.len (by simp)
  | x :: σ, ev =>
  have o1 := owns_one ev no
  refine ⟨H0, ev, fun v Hp1 ⟨H1, p, es1, ev1, g1, hp1, eH, a1, n1, z1, sm1⟩ => ?_⟩
  subst ev1 eH
  have ev1 := ev.grow g1
  have o1' := owns_one ev1 no
  obtain ⟨y, gy, dx, gs, ey, ha, hfs⟩ := pget ev1.sl (i := 0) rfl
  simp at gy
  subst gy ey
  rw [o1] at a1
  rw [o1'] at hfs
  have hap : a ≠ p := fun z => by rw [z, hp1] at ha; cases ha
  have ha2 : upd H1 p (dictO X.prog X.w p es1) a = some (.ins C dx gs) := by rw [upd_ne hap]; exact ha
  have gl : gs.length < 1000 := by have := daFs_length hfs; omega
  refine ⟨_, rfl, a, C, dx, gs, rfl, ha2, hC, hn, gl, ?_⟩
  -- the heap behind the first statement
  generalize hH2 : upd (upd H1 p (dictO X.prog X.w p es1)) a (.ins C dx (putF f (.ref p) gs)) = H2
  have s2 : Sub (cut [a] H1) H2 := fun b o q => by
    by_cases hba : b ∈ [a]
    · rw [cut_in hba] at q; cases q
    · rw [cut_out hba] at q
      have h3 : b ≠ a := by simpa using hba
      rw [← hH2, upd_ne h3, upd_ne (ne_of_none q hp1)]; exact q
  have e2 := env_light ev1 no s2
  have on : owns (some (V.ref a) :: σ) (.no :: ε) = [] := owns_no (by unfold noOwn at no ⊢; rw [List.all_cons, no]; rfl)
  refine ⟨H2, e2, fun v Hp3 ⟨H3, q, es2, evq, g3, hq, eH, a3, n3, z3, sm3⟩ => ?_⟩
  subst evq eH
  rw [on, cut_nil] at a3
  have ha3 : H2 a = some (.ins C dx (putF f (.ref p) gs)) := by rw [← hH2, upd_same]
  have hp3 : H2 p = some (dictO X.prog X.w p es1) := by rw [← hH2, upd_ne (Ne.symm hap), upd_same]
  have ha4 := g3.keep _ _ ha3 (fun _ z => by cases z)
  have hp4 := g3.keep _ _ hp3 (dictO_tbl _ _)
  have hqa : q ≠ a := fun z => by rw [z, ha4] at hq; cases hq
  have hqp : q ≠ p := fun z => by rw [z, hp4] at hq; cases hq
  have hlen : (some (V.ref a) :: σ).length = ε.length + 1 := by have := ev.len; simpa using this
  refine ⟨_, by rw [List.getElem?_set]; simp only [↓reduceIte]; rw [if_pos (by rw [hlen]; omega)], q, es2, rfl, upd_same, sm3, fun od => ?_⟩
  -- the loop
  generalize hHs : upd (upd H3 q (dictO X.prog X.w q es2)) q (.frz od (dictO X.prog X.w q es2)) = Hs
  have hs_ne : ∀ b, b ≠ q → Hs b = H3 b := fun b hb => by rw [← hHs, upd_ne hb, upd_ne hb]
  have hsq : Hs q = some (.frz od (dictO X.prog X.w q es2)) := by rw [← hHs, upd_same]
  have hsa : Hs a = some (.ins C dx (putF f (.ref p) gs)) := by rw [hs_ne a (Ne.symm hqa)]; exact ha4
  have hsp : Hs p = some (dictO X.prog X.w p es1) := by rw [hs_ne p (Ne.symm hqp)]; exact hp4
  have own2 : ∀ b ∈ [a, p], OwnAt H2 b := fun b hb => by
    have : b = a ∨ b = p := by simpa using hb
    rcases this with rfl | rfl
    · exact .inr (.inr ⟨_, _, _, ha3⟩)
    · exact .inr (.inl ⟨_, _, _, hp3⟩)
  generalize hHH : cut [a, p, q] Hs = HH
  have sHH : Sub (cut [a, p] H3) HH := fun b o z => by
    by_cases hb : b ∈ [a, p]
    · rw [cut_in hb] at z; cases z
    · rw [cut_out hb] at z
      have hbq : b ≠ q := ne_of_none z hq
      have h3 : b ∉ [a, p, q] := by
        intro y
        apply hb
        have : b = a ∨ b = p ∨ b = q := by simpa using y
        rcases this with y | y | y
        · simp [y]
        · simp [y]
        · exact absurd y hbq
      rw [← hHH, cut_out h3, hs_ne b hbq]; exact z
  have s12 : Sub (cut [a] H1) (cut [a, p] H2) := fun b o z => by
    by_cases hb : b ∈ [a]
    · rw [cut_in hb] at z; cases z
    · have z' := z
      rw [cut_out hb] at z
      have h3 : b ≠ p := ne_of_none z hp1
      have h4 : b ≠ a := by simpa using hb
      rw [cut_out (by simp [h3, h4])]
      exact s2 b o z'
  have x1 : Ex (cut [a] H1) HH := (s12.ex.trans (cut_ex own2 g3)).trans sHH.ex
  have tupH : ∀ b xs, H3 b = some (.tup xs) → HH b = some (.tup xs) := fun b xs z => by
    have b1 : b ≠ a := fun y => by rw [y, ha4] at z; cases z
    have b2 : b ≠ p := fun y => by rw [y, hp4] at z; unfold dictO at z; cases z
    exact sHH b _ (by rw [cut_out (by simp [b1, b2])]; exact z)
  have a3' : DaKvs X.prog X.w X.K HH es2 kvs2 := a3.monoI tupH i2
  have subH : ∀ esi : List (NK × Addr × V), Sub HH (cut [a] (upd Hs p (dictO X.prog X.w p esi))) := fun esi b o z => by
    by_cases hb : b ∈ [a, p, q]
    · rw [← hHH, cut_in hb] at z; cases z
    · rw [← hHH, cut_out hb] at z
      have h3 : b ≠ a ∧ b ≠ p := by
        constructor <;> (intro y; apply hb; simp [y])
      rw [cut_out (by simp [h3.1]), upd_ne h3.2]; exact z
  have ln1 : es1.length = kvs1.length := kvs_length a1
  have ln2 : es2.length = kvs2.length := kvs_length a3
  have eta : Hs = upd Hs p (dictO X.prog X.w p es1) := by
    funext b
    by_cases hb : b = p
    · rw [hb, upd_same, hsp]
    · rw [upd_ne hb]
  refine for_it walk_keysN (fun i σ' H' => ∃ esi kvsi, H' = upd Hs p (dictO X.prog X.w p esi) ∧ DaKvs X.prog X.w X.K HH esi kvsi ∧ kvsi = putKs kvs1 (kvs2.take i) ∧ (esi.map (·.1)).Nodup ∧ esi.length ≤ kvs1.length + i ∧ σ'[0]? = some (some (.ref a)) ∧ σ'[fi]? = some (some (.ref q)) ∧ σ'.length = ε.length + 1) ?_ ?_ ?_ ?_
  · refine ⟨es1, kvs1, eta, a1.ex x1, rfl, n1, by omega, ?_, ?_, ?_⟩
    · rw [List.getElem?_set_ne (by omega)]; rfl
    · rw [List.getElem?_set]; simp only [↓reduceIte]; rw [if_pos (by rw [hlen]; omega)]
    · rw [List.length_set]; exact hlen
  · rintro i σ' H' hi ⟨esi, kvsi, rfl, _⟩
    rw [upd_ne hqp]; exact hsq
  · rintro i y σ' H' H'' hi ⟨esi, kvsi, rfl, ai, rfl, ni, li, e0, e1, el⟩ ⟨eq, ⟨k, b, v⟩, hb, rfl⟩
    subst eq
    obtain ⟨d, hd, dk, dh, dv⟩ := daKvs_at a3' hb
    obtain ⟨ks, rfl⟩ : ∃ ks, k = .tup ks := t2 _ (List.mem_of_getElem? hd)
    have hsub := (subH esi).trans cut_sub
    refine ⟨a, C, dx, putF f (.ref p) gs, p, q, od, es2, kvs2, esi, putKs kvs1 (kvs2.take i), b, ks, b, v, ?_, ?_, hC, hn, lookup_putF _ _ _, upd_same, ai.ex hsub.ex, ni, ?_, ?_, ?_, ?_, a3'.ex hsub.ex, n3, dk.ex hsub.ex, dh, getE_at n3 hb, ?_⟩
    · rw [List.getElem?_set_ne (by omega)]; exact e0
    · rw [upd_ne hap]; exact hsa
    · rw [sizeLine_eq]; omega
    · rw [List.getElem?_set_ne (Ne.symm hfp)]; exact e1
    · rw [List.getElem?_set]; simp only [↓reduceIte]; rw [if_pos (by rw [el]; omega)]
    · rw [upd_ne hqp]; exact hsq
    · refine ⟨putE esi (.tup ks) b v, _, ?_, kvs_put ai dk dh dv, (putKs_succ hd).symm, putE_keys _ _ _ _ ni, ?_, ?_, ?_, ?_⟩
      · funext c
        by_cases hc : c = p
        · rw [hc, upd_same, upd_same]
        · rw [upd_ne hc, upd_ne hc, upd_ne hc]
      · have := putE_length esi (.tup ks) b v; omega
      · rw [List.getElem?_set_ne (by omega)]; exact e0
      · rw [List.getElem?_set_ne (Ne.symm hfp)]; exact e1
      · rw [List.length_set]; exact el
  · rintro σ' H' ⟨esi, kvsi, rfl, ai, rfl, ni, li, e0, e1, el⟩
    have et : kvs2.take es2.length = kvs2 := by rw [ln2, List.take_length]
    rw [et] at ai
    match σ', e0, el with
    | [], e0, _ => simp at e0
    | y :: σ', e0, el =>
    simp at e0
    subst e0
    have oN : owns (some (V.ref a) :: σ') (.oo a C (putG f (.dic (putKs kvs1 kvs2)) fs) :: List.replicate ε.length .no) = [a] := by
      have : noOwn (List.replicate ε.length Sl.no) = true := by
        unfold noOwn
        rw [List.all_eq_true]
        intro t ht
        rw [(List.mem_replicate.mp ht).2]; rfl
      unfold owns own1 Sl.own
      rw [owns_no this]; rfl
    refine ⟨_, ⟨?_, ?_, ?_, ?_⟩, h⟩
    · rw [oN]
      have b0 := ev1.ex
      rw [o1'] at b0
      exact (b0.trans x1).trans (subH esi).ex
    · rw [oN]
      have b0 := ev1.tb
      rw [o1'] at b0
      exact (x1.trans (subH esi).ex).tabs T b0
    · rw [oN]; simp
    · rw [oN]
      refine .cons ⟨dx, _, rfl, by rw [upd_ne hap]; exact hsa, daFs_put f (.dic (a := p) (es := esi) ?_ (ai.ex (subH esi).ex) ni ?_ sm1) (hfs.ex (x1.trans (subH esi).ex))⟩ ?_
      · rw [cut_out (by simpa using Ne.symm hap), upd_same]
      · rw [sizeLine_eq]; omega
      · refine pget_of (by simp at el; simpa using el) fun i v t h1 h2 => ?_
        have := List.mem_of_getElem? h2
        rw [(List.mem_replicate.mp this).2]; trivial
end
end Cp
end
section
set_option maxHeartbeats 4000000
/-! A comprehension stored under a name. -/
namespace Cp
open PySem PySem.Spec PyProof.Rows L2 LamX

section
variable {X : Cx}
theorem dc_core {pins : List (Addr × Obj)} {s : Shared} {σ : L2.St} {H : Hp} {Q : VK} {kx vx tg iter : Expr} {ifs : List Expr} {scope : Scope} {own : List (Str × Nat)} {pos pos' : Pos} {wi : TI} {g : TG} {tt : TT} {tk tv : TE} {use : Option (Value → Sem Unit)} {Qf : Value → Shared → Prop}
    (hu : X.A.units + 9 < cLine) (hc : X.calm = true) (hN : X.N.Nodup) (I : Inv X pins σ H s) (hi : PI X tg iter wi) (ok : BlkOk X.N X.env.scope scope own)
    (hg : BAll X scope fun Y => PG Y tg g) (ht : BAll X scope fun Y => PTs Y ifs tt) (hk : BAll X scope fun Y => PE Y kx tk) (he : BAll X scope fun Y => PE Y vx tv) (hs : ∀ x, foldedSetIterable iter X.env x = pure x)
    (h : tDcN X wi g tt tk tv (own.map (·.2)) σ H Q)
    (hRR : ∀ D C s' m H', Inv X pins σ H' s' → Q (.ref D) H' → s'.heap.Ns C m → FpOk X pins H' C → compPost (model X.prog X.w) X.A X.xe use Qf (.ref D) C (.ok .next) s') :
    wpAny (model X.prog X.w) X.A (comprehension (.DictComp kx vx [⟨tg, iter, ifs, 0⟩] scope pos) scope X.env pos' newDict false (eval iter X.env) use) Qf X.xe s := by
  have hfree : ∀ y ∈ scope.names, y.2 = .free → ∃ c, X.env.cells.lookup y.1 = some c := fun y hy e => (ok.free y hy e).elim (fun k => I.ok.has _ (.inl k)) fun k => I.ok.has _ (.inr k)
  refine wpAny_comprehension_free (use := use) rfl hs (closure_ok hfree) ok.kind (fun y hy e => by rw [ok.uniq y hy, e]) (thn (hi.run pins s σ H _ I h) fun xv s1 hx => thn hx fun itv s2 h2 => ?_)
  obtain ⟨it, fp, tn, J, H2, e, I2, T, st2, f2, q⟩ := h2
  subst e
  refine wpAny_newObj_type (newEnv_comp ?_)
  generalize hD : s2.heap.objs.size = D
  have hDn : H2 D = none := I2.hok.fresh (Nat.le_of_eq hD)
  have hDs : (D == sysModules) = false := beq_eq_false_iff_ne.mpr (fun z => Nat.ne_of_lt I2.big (by rw [hD, z]))
  obtain ⟨W, ⟨m0, w0⟩, turn⟩ := q D hDn hDs
  generalize hs3 : ({ s2 with heap := s2.heap.push { cls := .type "dict", data := .dict #[] } } : Shared) = s3
  have h3 : s3.heap = s2.heap.push { cls := .type "dict", data := .dict #[] } := by rw [← hs3]
  have I3 : Inv X pins σ (upd H2 D (dictO X.prog X.w D [])) s3 := by
    rw [← hs3, ← hD]
    exact I2.laid (t' := s2.toks) (fun b o e => Heap.get?_push_of_some _ e) (Nat.le_refl _) (do_ok .nil (Heap.DictOfH.new s2.heap))
  have young : ∀ b ∈ fp, b < D := fun b hb => by
    obtain ⟨o, e, _⟩ := T.obj _ _ st2 b hb
    rw [← hD]; exact Heap.lt_size e
  have f3 : ∀ b ∈ fp, FpOk X pins (upd H2 D (dictO X.prog X.w D [])) b ∧ b < s3.heap.objs.size := fun b hb => by
    have hlt := young b hb
    refine ⟨⟨?_, (f2 b hb).2⟩, by rw [h3, Heap.size_push, hD]; exact Nat.lt_succ_of_lt hlt⟩
    rw [upd_ne (Nat.ne_of_lt hlt)]
    exact (f2 b hb).1
  have st3 : tn 0 s3.heap := T.keep _ _ _ st2 fun b _ o e => by rw [h3]; exact Heap.get?_push_of_some _ e
  have I4 := block_start I3 ok hN f3
  have pg := hg s3 (upd H2 D (dictO X.prog X.w D [])) s3.heap.objs.size (cellsFrom (s3.heap.objs.size + 1) scope.names (cloFrom X.env.cells scope.names [])) fp
  have pt := ht s3 (upd H2 D (dictO X.prog X.w D [])) s3.heap.objs.size (cellsFrom (s3.heap.objs.size + 1) scope.names (cloFrom X.env.cells scope.names [])) fp
  have pk := hk s3 (upd H2 D (dictO X.prog X.w D [])) s3.heap.objs.size (cellsFrom (s3.heap.objs.size + 1) scope.names (cloFrom X.env.cells scope.names [])) fp
  have pe := he s3 (upd H2 D (dictO X.prog X.w D [])) s3.heap.objs.size (cellsFrom (s3.heap.objs.size + 1) scope.names (cloFrom X.env.cells scope.names [])) fp
  show codeAny _ _ (.compStart (.DictComp kx vx [⟨tg, iter, ifs, 0⟩] scope pos) 0 (.ref it) (.ref D) (compEnvC scope (cellsFrom (s3.heap.objs.size + 1) scope.names (cloFrom X.env.cells scope.names [])) s3.heap.objs.size X.env)) (compPost (model X.prog X.w) X.A X.xe use Qf (.ref D) s3.heap.objs.size) { s3 with heap := pushCells (s3.heap.push { cls := .type "dict", data := .dict #[] }) scope.names }
  have nfp : ∀ b ∈ fp, (upd H2 D (dictO X.prog X.w D [])) b = none := fun b hb => (f3 b hb).1.1
  unfold BX at pg pt pk pe
  generalize hce : compEnvC scope (cellsFrom (s3.heap.objs.size + 1) scope.names (cloFrom X.env.cells scope.names [])) s3.heap.objs.size X.env = ce at I4 pg pt pk pe ⊢
  have cL : ce.locals = s3.heap.objs.size := by subst hce; rfl
  generalize hH3 : upd H2 D (dictO X.prog X.w D []) = H3 at I3 I4 pg pt pk pe w0 nfp f3
  generalize hs4 : ({ s3 with heap := pushCells (s3.heap.push { cls := .type "dict", data := .dict #[] }) scope.names } : Shared) = s4 at I4 ⊢
  have st4 : tn 0 s4.heap := T.keep _ _ _ st3 fun b _ o e => by rw [← hs4]; exact pushCells_keeps _ _ _ _ (Heap.get?_push_of_some _ e)
  have stat : ∀ {σ' : L2.St} {H' : Hp} {s' : Shared}, Inv (X.blk s3 H3 scope ce fp) [] σ' H' s' → (∀ b ∈ fp, H' b = none) → ∀ b ∈ fp, FpOk (X.blk s3 H3 scope ce fp) [] H' b := fun {σ' H' s'} I' hn b hb =>
    ⟨hn b hb, (I'.ok.exf b hb).1, I'.ok.exfs b hb, .inl hb, fun x c e => (I'.ok.exf b hb).2 x c e, fun p hp => absurd (show p ∈ ([] : List (Addr × Obj)) ++ [] from hp) (by simp)⟩
  refine codeAny_compStart_dict ?loop (T.self X.A 0 _ _ _ st4 ?loop)
  case loop =>
    refine compLoop_anyD (fun n s' => ∃ i H', Inv (X.blk s3 H3 scope ce fp) [] (wipe σ (own.map (·.2))) H' s' ∧ tn i s'.heap ∧ (∀ b ∈ fp, H' b = none) ∧ W i n H') ?_ m0 ⟨0, H3, I4, st4, nfp, w0⟩
    rintro n s5 ⟨i, H5, I5, st5, n5, w5⟩
    rcases turn i n H5 w5 with ⟨stop, qq⟩ | ⟨go, Nx, hNx, step⟩
    · refine thnF (T.done (X.blk s3 H3 scope ce fp) rfl rfl rfl hc i [] s5 _ H5 (fun _ _ => False) I5 (stat I5 n5) st5 stop) fun r s6 ⟨hr, I6⟩ => ?_
      subst hr
      have I7 : Inv X pins σ H5 s6 := I3.call' (ch := fp) I6.os I6.base I6.hok I6.bare fun b hb => ⟨(f3 b hb).1.2.2.2.1, (f3 b hb).1.2.1, (f3 b hb).1.2.2.2.2.1, (f3 b hb).1.2.2.2.2.2⟩
      have nC : H5 s3.heap.objs.size = none := by
        have z : H5 ce.locals = none := I6.free
        rw [cL] at z; exact z
      obtain ⟨m, hn, _⟩ := I6.loc
      have hn : s6.heap.Ns ce.locals m := hn
      rw [cL] at hn
      exact hRR D s3.heap.objs.size s6 m H5 I7 qq hn (I3.fpOk (Nat.le_refl _) nC)
    · refine thnF (T.item (X.blk s3 H3 scope ce fp) rfl rfl rfl hc i [] s5 _ H5 (fun _ _ => False) I5 (stat I5 n5) st5 go) fun r s6 ⟨u, hr, h6⟩ => ?_
      subst hr
      refine thnF h6 fun _ s7 ⟨x, H7, I7, r7, y7, st7, n7⟩ => ?_
      have I7' := I7.pinned (stat I7 n7) (T.obj _ _ st7)
      refine thnF (pg.run _ s7 _ H7 x u _ I7' r7 (step x H7 y7)) fun _ s8 ⟨σ8, H8, I8, hw8, q8⟩ => ?_
      refine thnF (pt.run _ s8 σ8 H8 _ I8 q8) fun b s9 ⟨H9, I9, q9⟩ => ?_
      have fin : ∀ {s' : Shared} {H' : Hp}, Inv (X.blk s3 H3 scope ce fp) ([] ++ pinsAt fp s7.heap) σ8 H' s' → Nx H' → ∃ m, m < n ∧ ∃ i H', Inv (X.blk s3 H3 scope ce fp) [] (wipe σ (own.map (·.2))) H' s' ∧ tn i s'.heap ∧ (∀ b ∈ fp, H' b = none) ∧ W i m H' := fun {s' H'} I' nx => by
        obtain ⟨m', hm, w'⟩ := hNx H' nx
        have pin' : ∀ b ∈ fp, ∀ o, s7.heap.get? b = some o → s'.heap.get? b = some o ∧ H' b = none := fun b hb o e =>
          let z := I'.pin (b, o) (List.mem_append_right _ (List.mem_append_right _ (mem_pinsAt hb e)))
          ⟨z.1, z.2.1⟩
        refine ⟨m', hm, i + 1, H', (I'.unpinned (pins := [])).weak (by rw [← hw8, wipe_length]) (fun j v e => ?_), T.keep _ _ _ st7 fun b hb o e => (pin' b hb o e).1, fun b hb => ?_, w'⟩
        · rw [← hw8] at e
          exact (wipe_some e).1
        · obtain ⟨o, e, _⟩ := T.obj _ _ st7 b hb
          exact (pin' b hb o e).2
      cases b with
      | false =>
        simp only [Bool.false_eq_true, if_false] at q9 ⊢
        exact fin I9 q9
      | true =>
        simp only [if_true] at q9 ⊢
        refine thnF (pk.run _ s9 σ8 H9 _ I9 q9) fun z s10 ⟨yk, H10, I10, r10, q10⟩ => ?_
        refine thnF (pe.run _ s10 σ8 H10 _ I10 q10) fun z2 s11 ⟨yv, H11, I11, r11, es, kvs, ks, c, ec, o11, hk11, h8, nx⟩ => ?_
        subst ec
        cases (show z = Value.ref c from r10)
        exact no_dictSet (X := X.blk s3 H3 scope ce fp) hu I11 o11 hk11 h8 r11 fun s12 I12 => fin I12 nx
theorem ps_setDc {i : Nat} {y : Str} {py : Pos} {kx vx tg iter : Expr} {ifs : List Expr} {scope : Scope} {own : List (Str × Nat)} {pos spos : Pos} {wi : TI} {g : TG} {tt : TT} {tk tv : TE} (hu : X.A.units + 9 < cLine) (hc : X.calm = true) (hN : X.N.Nodup) (hy : X.N[i]? = some y) (hyl : X.env.scope.names.lookup y = some .local)
    (hsw : swapsWith (.DictComp kx vx [⟨tg, iter, ifs, 0⟩] scope pos) (some (.Name y py)) spos.line X.env = pure true) (hi : PI X tg iter wi) (ok : BlkOk X.N X.env.scope scope own)
    (hg : BAll X scope fun Y => PG Y tg g) (ht : BAll X scope fun Y => PTs Y ifs tt) (hk : BAll X scope fun Y => PE Y kx tk) (he : BAll X scope fun Y => PE Y vx tv) (hs : ∀ x, foldedSetIterable iter X.env x = pure x := by intro _; rfl) :
    PS X (.Assign [.Name y py] (.DictComp kx vx [⟨tg, iter, ifs, 0⟩] scope pos) spos) (tAsg (tDcN X wi g tt tk tv (own.map (·.2))) (gName i)) := by
  refine ⟨fun pins s σ H D I h => ?_⟩
  rw [exec_Assign_Name_used _ _ _ _ hsw]
  refine wpAny_bind (wpAny_standAt (wpAny_bind ?_))
  show wpAny _ X.A (do let _ ← comprehension (.DictComp kx vx [⟨tg, iter, ifs, 0⟩] scope pos) scope X.env (firstIterPos [⟨tg, iter, ifs, 0⟩] pos) newDict false (eval iter X.env) (some (assign (.Name y py) X.env))) _ _ s
  have h : tDcN X wi g tt tk tv (own.map (·.2)) σ H (fun x H1 => gName i x σ H1 D.nx) := h
  refine wpAny_bind (thn (dc_core (Qf := fun _ s' => SP X pins D .next s') hu hc hN I hi ok hg ht hk he hs h fun L C s' m H' I' q hn f => ?_) fun _ s' hq => wpAny_pure (wpAny_pure hq))
  show wpAny _ _ (assign (.Name y py) X.env (.ref L)) _ _ _
  refine wpAny_assign_Name (store_ok2 (v := V.ref L) I' hN hy (.inl hyl) rfl (fun s2 I2 ⟨a, sb, ha⟩ => ?_) (.inr hyl))
  obtain ⟨f0, f1, f2, f3, f4, f5⟩ := f
  have haC : C ≠ a := by
    rcases ha with z | z
    · rw [z]; exact f1
    · exact fun e => f4 y a z e.symm
  refine ⟨m, hn.sameBut sb haC, fun h3 sb3 => ?_⟩
  exact ⟨_, H', I2.turned (t' := s2.toks) (fun b o hb e => (sb3.2 b hb).trans e) f0 f1 f3 f4 f5, q⟩
theorem sw_trueD {kx vx : Expr} {gs : List Comprehension} {scope : Scope} {pos py : Pos} {y : Str} {l : Nat} {env : Env} (hk : env.scope.kind = .function) (hy : env.scope.names.lookup y = some .local) (hl : (py.line == pos.line) = true)
    (ha : (scope.names.any fun (n, k) => n == y && (k == .local || k == .cell)) = false) : swapsWith (.DictComp kx vx gs scope pos) (some (.Name y py)) l env = pure true := by
  have ky : env.kindOf y = some .local := hy
  have hb : env.blockKind = .function := by unfold Env.blockKind; rw [hk]; rfl
  unfold swapsWith
  simp only [hb, ky, ha, Expr.pos, hl]
  rfl
end
section
variable {T : List (Addr × Str)} {X : Cx} {ε : List Sl} {elt kx vx tg iter : Expr} {ifs : List Expr} {scope : Scope} {pos spos py : Pos} {P : Oc → Prop}
theorem lc_tr {wi : TI} {n : Nat} {items : Nat → Dt} {own : List (Str × Nat)} {js : List Nat} {f : Nat → List Sl → List Sl} (fb : Nat → Bool) (fd : Nat → Dt) (Gi : Nat → GP) (hi : DI T X ε tg iter n items wi)
    (ht : ∀ i, i < n → BAll X scope (fun Y => DTg T Y tg (items i) js (f i))) (hj : ∀ j ∈ js, j ∈ own.map (·.2)) (hb : ∀ i, i < n → BAll X scope (fun Y => DTs T Y (f i (wipeE ε (own.map (·.2)))) ifs (fb i)))
    (he : ∀ i, i < n → fb i = true → BAll X scope (fun Y => DG T Y (f i (wipeE ε (own.map (·.2)))) elt (Gi i))) (ha : ∀ i, i < n → fb i = true → Adds X (Gi i) (fd i)) (hn : n < 200000) (i : (immAll (outs fb fd n) || noOwn ε) = true)
    (σ : L2.St) (H H0 : Hp) (ev : EnvOk X.prog X.w X.K T H0 H σ ε) (Q : VK) (k : ∀ v H', gN X (outs fb fd n) (owns σ ε) H v H' → Q v H') : tLc wi (gAny T X scope tg) (tAnys T X scope ifs) (eAny T X scope elt) (own.map (·.2)) σ H Q := by
  refine hi.rd σ H H0 ev _ fun J H1 G Y g w hG hY D hD => ?_
  have ev1 := ev.grow g
  refine lc_it w (fun i H' => LcP X H1 D (outs fb fd i) H') ⟨[], upd_same, ?_, .nil⟩ (fun i H' _ p => ?_) ?_ (fun H' p => k _ _ (lc_new ev g hD p i))
  · have : cut [D] (upd H1 D (.lst [])) = H1 := by
      funext b
      by_cases hb : b = D
      · subst hb; rw [cut_in (by simp), hD]
      · rw [cut_out (by simpa using hb), upd_ne hb]
    rw [this]; exact Ex.refl H1
  · obtain ⟨acc, h1, h2, h3⟩ := p
    exact hG (owns σ ε) H' (cut_ex ev1.own (h2.trans cut_sub.ex))
  · intro i x H' H'' hi' p y
    have gx : Ex H1 H' := let ⟨acc, h1, h2, h3⟩ := p; h2.trans cut_sub.ex
    have c1 := cut_ex ev1.own gx
    have ev' := ev1.grow gx
    obtain ⟨g2, hx⟩ := hY (owns σ ε) i H' x H'' hi' c1 ev'.own y
    have ev2 := ev'.grow g2
    obtain ⟨w1, w2⟩ := ev2.wipe (own.map (·.2))
    have p2 := p.grow g2
    refine ⟨items i, js, f i, wipeE ε (own.map (·.2)), _, ht i hi', w1.rebase, hx.ex (cut_sub_of w2).ex, fun σ3 H3 ev3 sb g3 => ⟨wipe_same sb hj, ?_⟩⟩
    have p3 := p2.grow g3
    refine ⟨f i (wipeE ε (own.map (·.2))), fb i, _, hb i hi', ev3, fun H4 g4 => ?_⟩
    have p4 := p3.grow g4
    have ev4 := ev3.grow g4
    show if fb i = true then _ else _
    cases q : fb i with
    | true =>
      rw [if_pos rfl]
      refine ⟨_, Gi i, _, he i hi' q, ev4, fun v H5 hv => ?_⟩
      obtain ⟨acc, a1, a2, a3⟩ := p4
      obtain ⟨g5, h5⟩ := ha i hi' q _ _ _ _ D acc a1 hv
      have p5 := (show LcP X H1 D (outs fb fd i) H4 from ⟨acc, a1, a2, a3⟩).grow g5
      have := p5.add h5 (by have := outs_le (fb := fb) (fd := fd) i; omega)
      rw [outs_succ, q]
      exact this
    | false =>
      rw [if_neg (by simp)]
      rw [outs_succ, q, if_neg (by simp), List.append_nil]
      exact p4
theorem d_setLc (i : Nat) {y : Str} {wi : TI} {n : Nat} {items : Nat → Dt} {own : List (Str × Nat)} {js : List Nat} {f : Nat → List Sl → List Sl} (fb : Nat → Bool) (fd : Nat → Dt) (Gi : Nat → GP) (hi : DI T X ε tg iter n items wi) (hN : X.N.Nodup) (ok : BlkOk X.N X.env.scope scope own)
    (ht : ∀ i, i < n → BAll X scope (fun Y => DTg T Y tg (items i) js (f i))) (hj : ∀ j ∈ js, j ∈ own.map (·.2)) (hb : ∀ i, i < n → BAll X scope (fun Y => DTs T Y (f i (wipeE ε (own.map (·.2)))) ifs (fb i)))
    (he : ∀ i, i < n → fb i = true → BAll X scope (fun Y => DG T Y (f i (wipeE ε (own.map (·.2)))) elt (Gi i))) (ha : ∀ i, i < n → fb i = true → Adds X (Gi i) (fd i)) (hn : n < 200000) (hi2 : (immAll (outs fb fd n) || noOwn ε) = true)
    (h : P (.nx (ε.set i (.val (.lst (outs fb fd n))))))
    (hc : X.calm = true := by rfl) (hs : ∀ x, foldedSetIterable iter X.env x = pure x := by intro _; rfl) (hy : X.N[i]? = some y := by rfl) (hyl : X.env.scope.names.lookup y = some .local := by rfl) (hk : X.env.scope.kind = .function := by rfl)
    (hl : (py.line == pos.line) = true := by rfl) (hna : (scope.names.any fun (n, k) => n == y && (k == .local || k == .cell)) = false := by rfl) : DS T X ε (.Assign [.Name y py] (.ListComp elt [⟨tg, iter, ifs, 0⟩] scope pos) spos) P :=
  .of (ps_setLc hc hN hy hyl (sw_true hk hyl hl hna) hi.pi ok (pg_any (T := T)) (pts_any (T := T)) (pe_any (T := T)) hs) fun σ H H0 ev => lc_tr fb fd Gi hi ht hj hb he ha hn hi2 σ H H0 ev _ fun v H' hv => by
    obtain ⟨g, hv⟩ := (show gB X (.lst (outs fb fd n)) (owns σ ε) H v H' by
      obtain ⟨H1, p, xs, e1, g, hp, e2, a⟩ := hv
      subst e1 e2
      have np : p ∉ owns σ ε := fun z => ((ev.own p z).ex g).there hp
      have s : Sub (cut (owns σ ε) H1) (cut (owns σ ε) (upd H1 p (.lst xs))) := fun b o q => by
        by_cases hb : b ∈ owns σ ε
        · rw [cut_in hb] at q; cases q
        · rw [cut_out hb] at q ⊢
          rw [upd_ne (ne_of_none q hp)]; exact q
      exact ⟨g.trans (Ex.new hp), .lst (by rw [cut_out np, upd_same]) (a.ex s.ex)⟩)
    exact ⟨_, (ev.grow g).set i hv, h⟩
theorem dc_tr {wi : TI} {n : Nat} {items : Nat → Dt} {own : List (Str × Nat)} {js : List Nat} {f : Nat → List Sl → List Sl} (fk : Nat → List NK) (fd : Nat → Dt) (hi : DI T X ε tg iter n items wi)
    (ht : ∀ i, i < n → BAll X scope (fun Y => DTg T Y tg (items i) js (f i))) (hj : ∀ j ∈ js, j ∈ own.map (·.2)) (hk : ∀ i, i < n → BAll X scope (fun Y => DE T Y (f i (wipeE ε (own.map (·.2)))) kx (kd (.tup (fk i)))))
    (hv : ∀ i, i < n → BAll X scope (fun Y => DE T Y (f i (wipeE ε (own.map (·.2)))) vx (fd i))) (h8 : ∀ i, i < n → (NestedKey.tup (fk i)).depth ≤ 8) (himm : ∀ i, i < n → (fd i).imm = true) (hn : n < 200000)
    (σ : L2.St) (H H0 : Hp) (ev : EnvOk X.prog X.w X.K T H0 H σ ε) (Q : VK) (kq : ∀ v H', gD X (putAll ((List.range n).map fun i => (.tup (fk i), fd i))) (owns σ ε) H v H' → Q v H') : tDcN X wi (gAny T X scope tg) (tAnys T X scope []) (eAny T X scope kx) (eAny T X scope vx) (own.map (·.2)) σ H Q := by
  refine hi.rd σ H H0 ev _ fun J H1 G Y g w hG hY D hD hDs => ?_
  have ev1 := ev.grow g
  let LP : Nat → Hp → Prop := fun i H' => ∃ es, H' D = some (dictO X.prog X.w D es) ∧ Ex H1 (cut [D] H') ∧ DaKvs X.prog X.w X.K (cut [D] H') es (putAll ((List.range i).map fun i => (.tup (fk i), fd i))) ∧ (es.map (·.1)).Nodup ∧ es.length ≤ i
  have ownD : ∀ {H' : Hp} {es : List (NK × Addr × V)}, H' D = some (dictO X.prog X.w D es) → ∀ a ∈ [D], OwnAt H' a := fun {H' es} e a ha => by
    have ha : a = D := by simpa using ha
    subst ha
    exact .inr (.inl ⟨_, _, es, e⟩)
  have grow : ∀ {i : Nat} {H' H'' : Hp}, LP i H' → Ex H' H'' → LP i H'' := fun {i H' H''} ⟨es, h1, h2, h3, h4, h5⟩ g => by
    have c := cut_ex (ownD h1) g
    exact ⟨es, g.keep _ _ h1 (dictO_tbl _ _), h2.trans c, h3.ex c, h4, h5⟩
  have start : LP 0 (upd H1 D (dictO X.prog X.w D [])) := by
    refine ⟨[], upd_same, ?_, .nil, List.nodup_nil, Nat.le_refl _⟩
    have : cut [D] (upd H1 D (dictO X.prog X.w D [])) = H1 := by
      funext b
      by_cases hb : b = D
      · subst hb; rw [cut_in (by simp), hD]
      · rw [cut_out (by simpa using hb), upd_ne hb]
    rw [this]; exact Ex.refl H1
  refine ⟨fun i m H => m = n - i ∧ i ≤ n ∧ LP i H, ⟨n, by simp, Nat.zero_le _, start⟩, ?_⟩
  rintro i m H' ⟨rfl, hi', p⟩
  have gx : Ex H1 H' := let ⟨es, h1, h2, _⟩ := p; h2.trans cut_sub.ex
  have c1 := cut_ex ev1.own gx
  have hGG := hG (owns σ ε) H' c1
  by_cases hlt : i < n
  · refine .inr ⟨w.goes i H' hlt hGG, LP (i + 1), fun H' p' => ⟨n - (i + 1), by omega, rfl, hlt, p'⟩, fun x H'' yy => ?_⟩
    have y := w.yields i H' x H'' hlt hGG yy
    have ev' := ev1.grow gx
    obtain ⟨g2, hx⟩ := hY (owns σ ε) i H' x H'' hlt c1 ev'.own y
    have ev2 := ev'.grow g2
    obtain ⟨w1, w2⟩ := ev2.wipe (own.map (·.2))
    have p2 := grow p g2
    refine ⟨items i, js, f i, wipeE ε (own.map (·.2)), _, ht i hlt, w1.rebase, hx.ex (cut_sub_of w2).ex, fun σ3 H3 ev3 sb g3 => ⟨wipe_same sb hj, ?_⟩⟩
    refine ⟨f i (wipeE ε (own.map (·.2))), true, _, fun _ _ _ _ _ => dts_nil, ev3, fun H4 g4 => ?_⟩
    have ev4 := ev3.grow g4
    show if true = true then _ else _
    rw [if_pos rfl]
    refine ⟨_, gE X (kd (.tup (fk i))), _, hk i hlt, ev4, fun k H5 ⟨g5, hk5⟩ => ?_⟩
    refine ⟨_, gE X (fd i), _, hv i hlt, ev4.grow g5, fun v H6 ⟨g6, hv6⟩ => ?_⟩
    have p6 := grow p2 ((g3.trans g4).trans (g5.trans g6))
    obtain ⟨es, h1, h2, h3, h4, h5⟩ := p6
    have hk6 := hk5.ex g6
    have hk7 := hk6
    rw [kd_tup] at hk7
    cases hk7 with
    | @tup c xs _ hb ab =>
      refine ⟨es, _, fk i, c, rfl, ⟨h1, h3.ex cut_sub.ex, h4, by rw [sizeLine_eq]; omega⟩, hk6, h8 i hlt, putE es (.tup (fk i)) c v, upd_same, ?_, ?_, putE_keys _ _ _ _ h4, ?_⟩
      · rw [cut_upd (by simp)]; exact h2
      · rw [cut_upd (by simp), List.range_succ, List.map_append, List.map_cons, List.map_nil, putAll_snoc]
        exact kvs_put h3 (hk6.imm_cut (ownD h1) (kd_imm _)) (h8 i hlt) (hv6.imm_cut (ownD h1) (himm i hlt))
      · have := putE_length es (.tup (fk i)) c v; omega
  · have e : i = n := by omega
    subst e
    obtain ⟨es, h1, h2, h3, h4, h5⟩ := p
    refine .inl ⟨w.stops H' hGG, kq _ _ ⟨cut [D] H', D, es, rfl, g.trans h2, cut_in (by simp), ?_, ?_, h4, by rw [sizeLine_eq]; omega, hDs⟩⟩
    · funext b
      by_cases hb : b = D
      · subst hb; rw [upd_same, h1]
      · rw [upd_ne hb, cut_out (by simpa using hb)]
    · refine h3.monoI (fun b xs q => own_tup (fun a ha => ((ev.own a ha).ex g).ex h2) b xs q) fun p hp => ?_
      obtain ⟨q, hq, e⟩ := putAll_vals _ p hp
      obtain ⟨i, hi, rfl⟩ := List.mem_map.mp hq
      rw [e]
      exact himm i (List.mem_range.mp hi)
theorem d_setDc (i : Nat) {y : Str} {wi : TI} {n : Nat} {items : Nat → Dt} {own : List (Str × Nat)} {js : List Nat} {f : Nat → List Sl → List Sl} (fk : Nat → List NK) (fd : Nat → Dt) (hu : X.A.units + 9 < cLine) (hi : DI T X ε tg iter n items wi) (hN : X.N.Nodup) (ok : BlkOk X.N X.env.scope scope own)
    (ht : ∀ i, i < n → BAll X scope (fun Y => DTg T Y tg (items i) js (f i))) (hj : ∀ j ∈ js, j ∈ own.map (·.2)) (hk : ∀ i, i < n → BAll X scope (fun Y => DE T Y (f i (wipeE ε (own.map (·.2)))) kx (kd (.tup (fk i)))))
    (hv : ∀ i, i < n → BAll X scope (fun Y => DE T Y (f i (wipeE ε (own.map (·.2)))) vx (fd i))) (h8 : ∀ i, i < n → (NestedKey.tup (fk i)).depth ≤ 8) (himm : ∀ i, i < n → (fd i).imm = true) (hn : n < 200000)
    (h : P (.nx (ε.set i (.val (.dic (putAll ((List.range n).map fun i => (.tup (fk i), fd i))))))))
    (hc : X.calm = true := by rfl) (hs : ∀ x, foldedSetIterable iter X.env x = pure x := by intro _; rfl) (hy : X.N[i]? = some y := by rfl) (hyl : X.env.scope.names.lookup y = some .local := by rfl) (hkf : X.env.scope.kind = .function := by rfl)
    (hl : (py.line == pos.line) = true := by rfl) (hna : (scope.names.any fun (n, k) => n == y && (k == .local || k == .cell)) = false := by rfl) : DS T X ε (.Assign [.Name y py] (.DictComp kx vx [⟨tg, iter, [], 0⟩] scope pos) spos) P :=
  .of (ps_setDc hu hc hN hy hyl (sw_trueD hkf hyl hl hna) hi.pi ok (pg_any (T := T)) (pts_any (T := T)) (pe_any (T := T)) (pe_any (T := T)) hs) fun σ H H0 ev => dc_tr fk fd hi ht hj hk hv h8 himm hn σ H H0 ev _ fun v H' hv => by
    obtain ⟨g, hv⟩ := (show gB X (.dic (putAll ((List.range n).map fun i => (.tup (fk i), fd i)))) (owns σ ε) H v H' by
      obtain ⟨H1, p, es, e1, g, hp, e2, a, n1, l1, sm⟩ := hv
      subst e1 e2
      have np : p ∉ owns σ ε := fun z => ((ev.own p z).ex g).there hp
      have s : Sub (cut (owns σ ε) H1) (cut (owns σ ε) (upd H1 p (dictO X.prog X.w p es))) := fun b o q => by
        by_cases hb : b ∈ owns σ ε
        · rw [cut_in hb] at q; cases q
        · rw [cut_out hb] at q ⊢
          rw [upd_ne (ne_of_none q hp)]; exact q
      exact ⟨g.trans (Ex.new hp), .dic (by rw [cut_out np, upd_same]) (a.ex s.ex) n1 l1 sm⟩)
    exact ⟨_, (ev.grow g).set i hv, h⟩
end
end Cp
end
section
/-! The walk of a fixed number of steps; closed walks. -/
namespace Tri
variable {t : Co → Co → L} {w h : Int} {n : Nat} {s : Int} {p q z u v : Co}
theorem walk_end (k : Nat) (q : Co) : walk t k q q = [q] := by
  cases k with
  | zero => rfl
  | succ k => unfold walk; rw [if_pos rfl]
theorem walk_fuel (c : Cn t w h n) (hs : s = 1 ∨ s = -1) : ∀ (k : Nat) (p q : Co), dist p q = k → onB w h p → onB w h q → Half s p q → k < n → ∀ m, k ≤ m → walk t m p q = wk t p q := by
  intro k
  induction k with
  | zero =>
    intro p q hd hp hq H hn m hm
    have e := dist_zero hd
    subst e
    rw [walk_end, wk_self]
  | succ k ih =>
    intro p q hd hp hq H hn m hm
    have hne : p ≠ q := fun e => by subst e; rw [dist_self] at hd; omega
    obtain ⟨_, a1, a2, a3⟩ := step c hs hp hq H (by omega) hne
    rw [wk_step c hs hp hq H (by omega) hne]
    cases m with
    | zero => omega
    | succ m =>
      unfold walk
      rw [if_neg hne, ih _ _ (by omega) a1 hq a2 (by omega) m (by omega)]
theorem walk40 (c : Full t w h) (hp : onB w h p) (hq : onB w h q) (e : p.1 ≤ q.1) (h40 : dist p q ≤ 40) : walk t 40 p q = wk t p q := by
  obtain ⟨s, hs, H⟩ := half_of e
  exact walk_fuel (c (dist p q + 1)) hs _ p q rfl hp hq H (by omega) 40 h40
end Tri
end
section
/-! The filling of a table, pair by pair. -/
namespace Tri
variable {t t' : Co → Co → L} {w h : Int} {n : Nat} {s : Int} {p q z u v : Co} {l : L}
def updT (t : Co → Co → L) (p q : Co) (l : L) : Co → Co → L := fun r s => if r = p ∧ s = q then l else t r s
theorem updT_same : updT t p q l p q = l := if_pos ⟨rfl, rfl⟩
theorem updT_ne {r s : Co} (h : ¬ (r = p ∧ s = q)) : updT t p q l r s = t r s := if_neg h
theorem fl_agree (h : t p q = t' p q) : fl t' p q = fl t p q := by unfold fl; rw [h]
theorem wk_cons (hne : p ≠ q) (e : dist (mv p (fl t p q)) q + 1 = dist p q) : wk t p q = p :: wk t (mv p (fl t p q)) q := by
  unfold wk
  rw [← e]
  show (if p = q then [p] else _) = _
  rw [if_neg hne]
/-- the walks of a table look at nearer pairs only -/
theorem wk_local (c : Cn t w h n) (ag : ∀ r s, dist r s < n → t r s = t' r s) (hs : s = 1 ∨ s = -1) : ∀ (k : Nat) (p q : Co), dist p q = k → onB w h p → onB w h q → Half s p q → k < n → wk t' p q = wk t p q
  | 0, p, q, hd, _, _, _, _ => by
    have e := dist_zero hd
    subst e
    rw [wk_self, wk_self]
  | k + 1, p, q, hd, hp, hq, H, hn => by
    have hne : p ≠ q := fun e => by subst e; rw [dist_self] at hd; omega
    obtain ⟨_, a1, a2, a3⟩ := step c hs hp hq H (by omega) hne
    have e : fl t' p q = fl t p q := fl_agree (ag p q (by omega))
    rw [wk_step c hs hp hq H (by omega) hne, wk_cons hne (by rw [e]; exact a3), e, wk_local c ag hs k _ q (by omega) a1 hq a2 (by omega)]
/-- the half of a pair, and its steep letter -/
theorem half_pair (h1 : p.1 < q.1) (h2 : p.2 ≠ q.2) : ∃ s : Int, (s = 1 ∨ s = -1) ∧ Half s p q ∧ (s = 1 → steepL p q = .N) ∧ (s = -1 → steepL p q = .S) ∧ 0 < s * (q.2 - p.2) := by
  by_cases g : p.2 < q.2
  · exact ⟨1, .inl rfl, ⟨by omega, by omega⟩, fun _ => if_pos g, fun e => by omega, by omega⟩
  · exact ⟨-1, .inr rfl, ⟨by omega, by omega⟩, fun e => by omega, fun _ => if_neg g, by omega⟩
/-- a fitting letter goes one step on -/
theorem mv_good (hp : onB w h p) (hq : onB w h q) (h1 : p.1 < q.1) (h2 : p.2 ≠ q.2) (hl : l = .E ∨ l = steepL p q) : ∃ s : Int, (s = 1 ∨ s = -1) ∧ Half s p q ∧ (mv p l = (p.1 + 1, p.2) ∨ mv p l = (p.1, p.2 + s)) ∧ onB w h (mv p l) ∧ Half s (mv p l) q ∧ dist (mv p l) q + 1 = dist p q := by
  obtain ⟨s, hs, H, a1, a2, a3⟩ := half_pair h1 h2
  unfold onB at hp hq ⊢
  have key : mv p l = (p.1 + 1, p.2) ∨ mv p l = (p.1, p.2 + s) := by
    rcases hl with rfl | rfl
    · exact .inl rfl
    · rcases hs with rfl | rfl
      · rw [a1 rfl]; exact .inr rfl
      · rw [a2 rfl]; right; show (p.1, p.2 - 1) = _; congr 1
  refine ⟨s, hs, H, key, ?_⟩
  unfold Half dist at *
  rcases key with e | e <;> rw [e] <;> simp only <;> rcases hs with rfl | rfl <;> omega
theorem fl_pair (h1 : p.1 < q.1) (h2 : p.2 ≠ q.2) : fl t p q = t p q := by
  unfold fl
  rw [if_neg h2, if_neg (by omega)]
/-- the walk that begins by l -/
theorem path_of (c : Cn t w h (dist p q)) (hp : onB w h p) (hq : onB w h q) (h1 : p.1 < q.1) (h2 : p.2 ≠ q.2) (hl : l = .E ∨ l = steepL p q) : ∃ s : Int, (s = 1 ∨ s = -1) ∧ Half s p q ∧ Half s (mv p l) q ∧ onB w h (mv p l) ∧ dist (mv p l) q + 1 = dist p q ∧ Path s p q (p :: wk t (mv p l) q) := by
  obtain ⟨s, hs, H, key, a1, a2, a3⟩ := mv_good hp hq h1 h2 hl
  have P := wkP c hs a1 hq a2 (by omega)
  refine ⟨s, hs, H, a2, a1, a3, ?_⟩
  rcases key with e | e
  · rw [e] at P ⊢; exact .east P
  · rw [e] at P ⊢; exact .steep P
theorem sl_near (c : Cn t w h (dist p q)) (hp : onB w h p) (hq : onB w h q) (h1 : p.1 < q.1) (h2 : p.2 ≠ q.2) (hl : l = .E ∨ l = steepL p q) :
    onB w h (sl (p :: wk t (mv p l) q)) ∧ dist p (sl (p :: wk t (mv p l) q)) + 1 = dist p q ∧ p.1 ≤ (sl (p :: wk t (mv p l) q)).1 := by
  obtain ⟨s, hs, H, a2, a1, a3, P⟩ := path_of c hp hq h1 h2 hl
  have hne : p ≠ q := fun e => by subst e; omega
  have hb := sl_before hs P hne
  have hs3 : 0 < s * (q.2 - p.2) := by
    unfold Half at H
    rcases hs with rfl | rfl <;> omega
  unfold Half onB dist at *
  rcases hb with e | e <;> rw [e] <;> simp only <;> rcases hs with rfl | rfl <;> omega
theorem adm_local (c : Cn t w h (dist p q)) (ag : ∀ r s, dist r s < dist p q → t r s = t' r s) (hp : onB w h p) (hq : onB w h q) (h1 : p.1 < q.1) (h2 : p.2 ≠ q.2) (hl : l = .E ∨ l = steepL p q) (a : adm t p q l) : adm t' p q l := by
  obtain ⟨s, hs, H, a2, a1, a3, P⟩ := path_of c hp hq h1 h2 hl
  obtain ⟨b1, b2, b3⟩ := sl_near c hp hq h1 h2 hl
  unfold adm at a ⊢
  rw [wk_local c ag hs _ _ q rfl a1 hq a2 (by omega), fl_agree (ag _ _ (by omega))]
  exact a

/-! ### the sorted pairs -/
structure Srt (S : List (Co × Co)) (w h : Int) : Prop where
  mem : ∀ p q, (p, q) ∈ S ↔ onB w h p ∧ onB w h q ∧ p.1 < q.1 ∧ p.2 ≠ q.2
  ord : S.Pairwise fun a b => dist a.1 a.2 ≤ dist b.1 b.2
  nd : S.Nodup
def FI (S : List (Co × Co)) (i : Nat) (t : Co → Co → L) : Prop := ∀ j p q, j < i → S[j]? = some (p, q) → GoodAt t p q ∧ adm t p q (t p q)
variable {S : List (Co × Co)} {i : Nat}
theorem FI.mono {j : Nat} (f : FI S i t) (h : j ≤ i) : FI S j t := fun k p q hk e => f k p q (by omega) e
theorem cons_of (hp : onB w h p) (hq : onB w h q) (h1 : p.1 < q.1) (h2 : p.2 ≠ q.2) (g : GoodAt t p q) (a : adm t p q (t p q)) : fl t p (sl (wk t p q)) = t p q := by
  have hne : p ≠ q := fun e => by subst e; omega
  obtain ⟨s, hs, H, key, a1, a2, a3⟩ := mv_good hp hq h1 h2 g
  rw [wk_cons hne (by rw [fl_pair h1 h2]; exact a3), fl_pair h1 h2]
  exact a
theorem FI.cn (c : Srt S w h) (f : FI S i t) (e : S[i]? = some (p, q)) : Cn t w h (dist p q) := by
  have idx : ∀ r s, onB w h r → onB w h s → r.1 < s.1 → r.2 ≠ s.2 → dist r s < dist p q → ∃ j, j < i ∧ S[j]? = some (r, s) := by
    intro r s a1 a2 a3 a4 a5
    obtain ⟨j, hj⟩ := List.getElem?_of_mem ((c.mem r s).mpr ⟨a1, a2, a3, a4⟩)
    refine ⟨j, ?_, hj⟩
    rcases Nat.lt_trichotomy j i with h | h | h
    · exact h
    · subst h; rw [e] at hj; cases hj; omega
    · exfalso
      have hj' := List.getElem?_eq_some_iff.mp hj
      have he' := List.getElem?_eq_some_iff.mp e
      have := List.pairwise_iff_getElem.mp c.ord i j he'.1 hj'.1 h
      rw [he'.2, hj'.2] at this
      simp only at this
      omega
  refine ⟨fun r s a1 a2 a3 a4 a5 => ?_, fun r s a1 a2 a3 a4 a5 => ?_⟩
  · obtain ⟨j, hj, ej⟩ := idx r s a1 a2 a3 a4 a5
    exact (f j r s hj ej).1
  · obtain ⟨j, hj, ej⟩ := idx r s a1 a2 a3 a4 a5
    obtain ⟨g, a⟩ := f j r s hj ej
    exact cons_of a1 a2 a3 a4 g a
theorem Srt.on (c : Srt S w h) (e : S[i]? = some (p, q)) : onB w h p ∧ onB w h q ∧ p.1 < q.1 ∧ p.2 ≠ q.2 := (c.mem p q).mp (List.mem_of_getElem? e)
theorem FI.step (c : Srt S w h) (f : FI S i t) (e : S[i]? = some (p, q)) (hl : l = .E ∨ l = steepL p q) (a : adm t p q l) : FI S (i + 1) (updT t p q l) := by
  intro j r s hj ej
  obtain ⟨o1, o2, o3, o4⟩ := c.on ej
  have hi' := List.getElem?_eq_some_iff.mp e
  have hj' := List.getElem?_eq_some_iff.mp ej
  have dle : dist r s ≤ dist p q := by
    rcases Nat.lt_or_ge j i with h | h
    · have := List.pairwise_iff_getElem.mp c.ord j i hj'.1 hi'.1 h
      rw [hi'.2, hj'.2] at this
      exact this
    · have : j = i := by omega
      subst this
      rw [e] at ej; cases ej; exact Nat.le_refl _
  have ag : ∀ x y, dist x y < dist r s → t x y = updT t p q l x y := fun x y hxy => by
    rw [updT_ne]
    rintro ⟨rfl, rfl⟩
    omega
  have cn := FI.cn c (f.mono (by omega : j ≤ i)) ej
  by_cases h : j = i
  · subst h
    rw [e] at ej; cases ej
    rw [updT_same]
    refine ⟨?_, adm_local cn ag o1 o2 o3 o4 hl a⟩
    show updT t p q l p q = _ ∨ updT t p q l p q = _
    rw [updT_same]; exact hl
  · have hne : ¬ (r = p ∧ s = q) := by
      rintro ⟨rfl, rfl⟩
      have := (List.getElem_inj c.nd).mp (hj'.2.trans hi'.2.symm)
      exact h this
    obtain ⟨g, a'⟩ := f j r s (by omega) ej
    rw [updT_ne hne]
    refine ⟨?_, adm_local cn ag o1 o2 o3 o4 g a'⟩
    show updT t p q l r s = _ ∨ updT t p q l r s = _
    rw [updT_ne hne]; exact g
theorem FI.full (c : Srt S w h) (f : FI S S.length t) : Full t w h := fun n => by
  have idx : ∀ r s, onB w h r → onB w h s → r.1 < s.1 → r.2 ≠ s.2 → GoodAt t r s ∧ adm t r s (t r s) := by
    intro r s a1 a2 a3 a4
    obtain ⟨j, hj⟩ := List.getElem?_of_mem ((c.mem r s).mpr ⟨a1, a2, a3, a4⟩)
    exact f j r s (List.getElem?_eq_some_iff.mp hj).1 hj
  exact ⟨fun r s a1 a2 a3 a4 _ => (idx r s a1 a2 a3 a4).1, fun r s a1 a2 a3 a4 _ => cons_of a1 a2 a3 a4 (idx r s a1 a2 a3 a4).1 (idx r s a1 a2 a3 a4).2⟩

/-! ### the choices -/
instance (t : Co → Co → L) (p q : Co) (l : L) : Decidable (adm t p q l) := inferInstanceAs (Decidable (_ = _))
def opts (t : Co → Co → L) (p q : Co) : List L := [L.E, steepL p q].filter fun l => decide (adm t p q l)
theorem opts_mem (hl : l ∈ opts t p q) : (l = .E ∨ l = steepL p q) ∧ adm t p q l := by
  unfold opts at hl
  rw [List.mem_filter] at hl
  exact ⟨by simpa using hl.1, of_decide_eq_true hl.2⟩
theorem opts_len (c : Cn t w h (dist p q)) (hp : onB w h p) (hq : onB w h q) (h1 : p.1 < q.1) (h2 : p.2 ≠ q.2) : 0 < (opts t p q).length ∧ (opts t p q).length ≤ 2 := by
  refine ⟨?_, List.length_filter_le _ _⟩
  unfold opts
  rcases greedy c hp hq h1 h2 rfl with a | a
  · exact List.length_pos_of_mem (List.mem_filter.mpr ⟨List.mem_cons_self .., decide_eq_true a⟩)
  · exact List.length_pos_of_mem (List.mem_filter.mpr ⟨List.mem_cons_of_mem _ (List.mem_cons_self ..), decide_eq_true a⟩)
/-- a turn: the table, the number of choices made -/
def fstep (bits : List Int) (st : (Co → Co → L) × Nat) (pq : Co × Co) : (Co → Co → L) × Nat :=
  if (opts st.1 pq.1 pq.2).length = 1 then (updT st.1 pq.1 pq.2 ((opts st.1 pq.1 pq.2).getD 0 .E), st.2)
  else (updT st.1 pq.1 pq.2 ((opts st.1 pq.1 pq.2).getD (bits.getD (st.2 % bits.length) 0).toNat .E), st.2 + 1)
def fillN (bits : List Int) (S : List (Co × Co)) (i : Nat) : (Co → Co → L) × Nat := (S.take i).foldl (fstep bits) (fun _ _ => .E, 0)
theorem fillN_succ {bits : List Int} {pq : Co × Co} (e : S[i]? = some pq) : fillN bits S (i + 1) = fstep bits (fillN bits S i) pq := by
  unfold fillN
  rw [List.take_add_one, e, Option.toList_some, List.foldl_append]; rfl
theorem getD_mem {l : List L} {k : Nat} (h : k < l.length) : l.getD k .E ∈ l := by
  rw [List.getD_eq_getElem?_getD, List.getElem?_eq_getElem h]
  exact List.getElem_mem h
theorem fill_inv {bits : List Int} (c : Srt S w h) (hb : ∀ k, 0 ≤ bits.getD k 0 ∧ bits.getD k 0 < 2) : ∀ i, i ≤ S.length → FI S i (fillN bits S i).1 ∧ (fillN bits S i).2 ≤ i
  | 0, _ => ⟨fun j p q hj => by omega, Nat.le_refl _⟩
  | i + 1, hi => by
    obtain ⟨f, k⟩ := fill_inv c hb i (by omega)
    obtain ⟨⟨p, q⟩, e⟩ : ∃ pq, S[i]? = some pq := ⟨_, List.getElem?_eq_getElem (by omega)⟩
    rw [fillN_succ e]
    obtain ⟨o1, o2, o3, o4⟩ := c.on e
    obtain ⟨l0, l2⟩ := opts_len (FI.cn c f e) o1 o2 o3 o4
    unfold fstep
    by_cases g : (opts (fillN bits S i).1 p q).length = 1
    · rw [if_pos g]
      obtain ⟨m1, m2⟩ := opts_mem (getD_mem l0)
      exact ⟨f.step c e m1 m2, by simp only; omega⟩
    · rw [if_neg g]
      have := hb ((fillN bits S i).2 % bits.length)
      obtain ⟨m1, m2⟩ := opts_mem (getD_mem (l := opts (fillN bits S i).1 p q) (k := (bits.getD ((fillN bits S i).2 % bits.length) 0).toNat) (by omega))
      exact ⟨f.step c e m1 m2, by simp only; omega⟩
/-- earlier pairs keep their letters -/
theorem fill_keep {bits : List Int} (c : Srt S w h) {j : Nat} (hj : j < i) (hi : i ≤ S.length) (e : S[j]? = some (p, q)) : (fillN bits S (j + 1)).1 p q = (fillN bits S i).1 p q := by
  induction i with
  | zero => omega
  | succ i ih =>
    by_cases h : j = i
    · subst h; rfl
    · rw [ih (by omega) (by omega)]
      have e2 : S[i]? = some (S[i]'(by omega)) := List.getElem?_eq_getElem (by omega)
      rw [fillN_succ e2]
      have hne : ¬ (p = (S[i]'(by omega)).1 ∧ q = (S[i]'(by omega)).2) := by
        rintro ⟨h1, h2⟩
        have hj' := List.getElem?_eq_some_iff.mp e
        have : S[j]'hj'.1 = S[i]'(by omega) := by rw [hj'.2]; exact Prod.ext h1 h2
        have := (List.getElem_inj c.nd).mp this
        omega
      unfold fstep
      split
      · exact (updT_ne hne).symm
      · exact (updT_ne hne).symm
/-! ### the table of E alone -/
def eastT : Co → Co → L := fun _ _ => .E
theorem east_adm (c : Cn eastT w h (dist p q)) (hp : onB w h p) (hq : onB w h q) (h1 : p.1 < q.1) (h2 : p.2 ≠ q.2) : adm eastT p q .E := by
  obtain ⟨s, hs, H, a2, a1, a3, P⟩ := path_of c hp hq h1 h2 (.inl rfl)
  have P2 := wkP c hs a1 hq a2 (by omega)
  have hm : mv p .E ≠ q := fun e => h2 (by rw [← e]; rfl)
  have l2 : 2 ≤ (wk eastT (mv p .E) q).length := by
    rw [wk_len c hs a1 hq a2 (by omega)]
    have : dist (mv p .E) q ≠ 0 := fun e => hm (dist_zero e)
    omega
  have hin : sl (wk eastT (mv p .E) q) ∈ wk eastT (mv p .E) q := sl_mem l2
  have := P2.bounds hs _ hin
  unfold adm
  rw [sl_cons l2]
  unfold fl
  have e1 : (mv p .E).1 = p.1 + 1 := rfl
  split
  · rfl
  · rw [if_neg (by omega)]; rfl
theorem east_cn : ∀ n, Cn eastT w h n
  | 0 => ⟨fun p q _ _ _ _ h => by omega, fun p q _ _ _ _ h => by omega⟩
  | n + 1 => by
    refine ⟨fun p q _ _ _ _ _ => .inl rfl, fun p q a1 a2 a3 a4 a5 => ?_⟩
    rcases Nat.lt_or_ge (dist p q) n with g | g
    · exact (east_cn n).cons p q a1 a2 a3 a4 g
    · have e : dist p q = n := by omega
      exact cons_of a1 a2 a3 a4 (.inl rfl) (east_adm (by rw [e]; exact east_cn n) a1 a2 a3 a4)
theorem east_full : Full eastT w h := east_cn
end Tri
end
section
namespace Tri
variable {t t' : Co → Co → L} {w h : Int} {n : Nat} {s : Int} {p q z u v : Co} {l : L}
/-- the last letter of the walk -/
def lastT (t : Co → Co → L) (p q : Co) : L := fl t (sl (wk t p q)) q
theorem wk_next (c : Full t w h) (hs : s = 1 ∨ s = -1) (hp : onB w h p) (hq : onB w h q) (H : Half s p q) (hne : p ≠ q) (h2 : mv p (fl t p q) ≠ q) : sl (wk t p q) = sl (wk t (mv p (fl t p q)) q) := by
  have cn := c (dist p q + 1)
  obtain ⟨a1, a2, a3, a4⟩ := step cn hs hp hq H (by omega) hne
  rw [wk_step cn hs hp hq H (by omega) hne]
  refine sl_cons ?_
  rw [wk_len cn hs a2 hq a3 (by omega)]
  rcases Nat.eq_zero_or_pos (dist (mv p (fl t p q)) q) with e | e
  · exact absurd (dist_zero e) h2
  · omega
theorem last_step (c : Full t w h) (hs : s = 1 ∨ s = -1) : ∀ (k : Nat) (p q : Co), dist p q = k → onB w h p → onB w h q → Half s p q → p ≠ q → mv (sl (wk t p q)) (lastT t p q) = q
  | 0, p, q, e, _, _, _, hne => absurd (dist_zero e) hne
  | k + 1, p, q, e, hp, hq, H, hne => by
    have cn := c (dist p q + 1)
    obtain ⟨a1, a2, a3, a4⟩ := step cn hs hp hq H (by omega) hne
    by_cases g : mv p (fl t p q) = q
    · have e2 : sl (wk t p q) = p := by
        rw [wk_step cn hs hp hq H (by omega) hne, g, wk_self]; rfl
      unfold lastT
      rw [e2, g]
    · have e2 := wk_next c hs hp hq H hne g
      unfold lastT
      rw [e2]
      exact last_step c hs k _ q (by omega) a2 hq a3 g
theorem sl_ne (c : Full t w h) (hs : s = 1 ∨ s = -1) (hp : onB w h p) (hq : onB w h q) (H : Half s p q) (hne : p ≠ q) : sl (wk t p q) ≠ q := by
  intro e
  have d := (wk_drop (c (dist p q + 1)) hs _ p q rfl hp hq H (by omega) hne).2.1
  rw [e] at d
  omega
theorem last_fl (c : Full t w h) (hs : s = 1 ∨ s = -1) (hp : onB w h p) (hq : onB w h q) (H : Half s p q) (hne : p ≠ q) : lastT t p q = fl (lastT t) p q := by
  obtain ⟨_, d1, d2, d3, d4, _⟩ := wk_drop (c (dist p q + 1)) hs _ p q rfl hp hq H (by omega) hne
  have b := (wkP (c (dist p q + 1)) hs hp hq H (by omega)).bounds hs _ d4
  have ne := sl_ne c hs hp hq H hne
  by_cases h1 : p.2 = q.2
  · have e1 : fl (lastT t) p q = .E := if_pos h1
    rw [e1]
    refine if_pos ?_
    rcases hs with rfl | rfl <;> omega
  · by_cases h2 : p.1 = q.1
    · have e1 : fl (lastT t) p q = if p.2 < q.2 then .N else .S := by unfold fl; rw [if_neg h1, if_pos h2]
      have f1 : (sl (wk t p q)).1 = q.1 := by omega
      have f2 : ¬ (sl (wk t p q)).2 = q.2 := fun z => ne (co_ext f1 z)
      have e2 : lastT t p q = if (sl (wk t p q)).2 < q.2 then .N else .S := by
        unfold lastT
        generalize sl (wk t p q) = r at f1 f2
        unfold fl; rw [if_neg f2, if_pos f1]
      rw [e1, e2]
      have : ((sl (wk t p q)).2 < q.2) ↔ (p.2 < q.2) := by rcases hs with rfl | rfl <;> omega
      simp only [this]
    · unfold fl
      rw [if_neg h1, if_neg h2]
theorem last_next (c : Full t w h) (hp : onB w h p) (hq : onB w h q) (h1 : p.1 < q.1) (h2 : p.2 ≠ q.2) : lastT t p q = fl (lastT t) (mv p (t p q)) q := by
  obtain ⟨s, hs, H⟩ := half_of (p := p) (q := q) (by omega)
  have hne : p ≠ q := fun z => h2 (by rw [z])
  obtain ⟨a1, a2, a3, a4⟩ := step (c (dist p q + 1)) hs hp hq H (by omega) hne
  have e1 : fl t p q = t p q := fl_pair h1 h2
  have g : mv p (fl t p q) ≠ q := fun z => by
    rw [z, dist_self] at a4
    unfold dist at a4
    omega
  have e2 := wk_next c hs hp hq H hne g
  have e3 : lastT t p q = lastT t (mv p (fl t p q)) q := by unfold lastT; rw [e2]
  rw [e3, last_fl c hs a2 hq a3 g, e1]
end Tri
end
section
namespace Tri
variable {t : Co → Co → L} {w h : Int} {p q r u v x y z m : Co}
/-- a corner's place on a line is its distance -/
theorem ln_idx (c : Full t w h) (hu : onB w h u) (hv : onB w h v) {i : Nat} (e : (ln t u v)[i]? = some x) : dist u x = i := by
  have hx : x ∈ ln t u v := List.mem_of_getElem? e
  have hxo := ln_on c hu hv hx
  have sp := ln_split c hu hv hx
  have hl := ln_len c hu hxo
  obtain ⟨l, el⟩ := ln_last c hu hxo
  have e2 : (ln t u v)[dist u x]? = some x := by
    rw [sp, List.getElem?_append_left (by omega), el]
    have : l.length = dist u x := by rw [el] at hl; simp at hl; exact hl
    rw [← this]; simp
  have nd := ln_nodup c hu hv
  obtain ⟨h1, g1⟩ := List.getElem?_eq_some_iff.mp e
  obtain ⟨h2, g2⟩ := List.getElem?_eq_some_iff.mp e2
  exact ((List.getElem_inj nd).mp (g1.trans g2.symm)).symm
theorem ln_same (c : Full t w h) (hu : onB w h u) (hv : onB w h v) (hx : x ∈ ln t u v) (hy : y ∈ ln t u v) (e : dist u x = dist u y) : x = y := by
  obtain ⟨i, hi⟩ := List.getElem?_of_mem hx
  obtain ⟨j, hj⟩ := List.getElem?_of_mem hy
  have h1 := ln_idx c hu hv hi
  have h2 := ln_idx c hu hv hj
  have : i = j := by omega
  subst this
  rw [hi] at hj
  exact Option.some.inj hj
/-- the last corner of A = ln p q that lies on C = ln r p -/
structure Knee (t : Co → Co → L) (p q r k : Co) : Prop where
  a : k ∈ ln t p q
  c : k ∈ ln t r p
  last : ∀ x, x ∈ ln t p q → x ∈ ln t r p → dist p x ≤ dist p k
/-- what lies ahead of the knee lies on both -/
theorem Knee.seg (K : Knee t p q r m) (c : Full t w h) (hp : onB w h p) (hq : onB w h q) (hr : onB w h r) (hx : x ∈ ln t p q) (hd : dist p x ≤ dist p m) : x ∈ ln t r p := by
  have h1 := (ln_order c hp hq hx K.a hd).1
  rw [ln_mem_comm] at h1 ⊢
  have hm := K.c
  rw [ln_mem_comm] at hm
  rw [ln_mem_comm] at h1
  exact ln_part1 c hp hr hm h1
section
variable {kp kq kr : Co}
/-- on the line p q, the knee of p lies ahead of that of q -/
theorem knee_order (c : Full t w h) (hp : onB w h p) (hq : onB w h q) (hr : onB w h r) (K1 : Knee t p q r kp) (K2 : Knee t q r p kq) (no : ∀ z, z ∈ ln t p q → z ∈ ln t q r → z ∈ ln t r p → False) : dist p kp < dist p kq := by
  rcases Nat.lt_or_ge (dist p kp) (dist p kq) with g | g
  · exact g
  · exact absurd (K1.seg c hp hq hr K2.c g) fun z => no kq K2.c K2.a z
/-- a corner on all three lines is each knee -/
theorem knee_meet (c : Full t w h) (hp : onB w h p) (hq : onB w h q) (hr : onB w h r) (K1 : Knee t p q r kp) (K2 : Knee t q r p kq) (a1 : m ∈ ln t p q) (a2 : m ∈ ln t q r) (a3 : m ∈ ln t r p) : kp = m ∧ kq = m := by
  have d1 := K1.last m a1 a3
  have d2 := K2.last m a2 a1
  have e1 := ln_dist c hp hq a1
  have e2 := ln_dist c hp hq K2.c
  have cm : ∀ a b : Co, dist a b = dist b a := fun a b => dist_comm
  have h1 := cm q m
  have h2 := cm q kq
  have h3 : kq ∈ ln t r p := K1.seg c hp hq hr K2.c (by omega)
  have z1 : m = kq := meet_one c hp hq hr a1 a2 a3 K2.c K2.a h3
  -- kp on ln q r
  have e3 := ln_dist c hp hq K1.a
  have h4 := cm q kp
  have h5 : kp ∈ ln t q r := by
    have o := (ln_order c hp hq K2.c K1.a (by omega)).2
    -- kp lies between kq and q
    have h6 : kp ∈ ln t q kq := by rw [ln_mem_comm]; exact o
    exact ln_part1 c hq hr K2.a h6
  exact ⟨(meet_one c hp hq hr a1 a2 a3 K1.a h5 K1.c).symm, z1.symm⟩
end

/-! ### the closed walk of three corners -/
def adjC (a b : Co) : Prop := (a.1 = b.1 ∧ (b.2 = a.2 + 1 ∨ a.2 = b.2 + 1)) ∨ (a.2 = b.2 ∧ (b.1 = a.1 + 1 ∨ a.1 = b.1 + 1))
theorem adjC.symm {a b : Co} (h : adjC a b) : adjC b a := by unfold adjC at *; omega
def adjL : List Co → Prop
  | a :: b :: l => adjC a b ∧ adjL (b :: l)
  | _ => True
theorem adjL_app {c : Co} {l2 : List Co} : ∀ {l1 : List Co}, adjL (l1 ++ [c]) → adjL (c :: l2) → adjL (l1 ++ c :: l2)
  | [], _, h => h
  | [a], h1, h2 => ⟨h1.1, h2⟩
  | a :: b :: l1, h1, h2 => ⟨h1.1, adjL_app (l1 := b :: l1) h1.2 h2⟩
theorem adjL_rev : ∀ {l : List Co}, adjL l → adjL l.reverse
  | [], _ => trivial
  | [a], _ => trivial
  | a :: b :: l, h => by
    rw [List.reverse_cons, List.reverse_cons, List.append_assoc]
    show adjL (l.reverse ++ b :: [a])
    refine adjL_app ?_ ⟨h.1.symm, trivial⟩
    have := adjL_rev h.2
    rwa [List.reverse_cons] at this
theorem Path.adj {s : Int} (hs : s = 1 ∨ s = -1) {p q : Co} {l : List Co} (h : Path s p q l) : adjL l := by
  induction h with
  | one p => trivial
  | east h ih =>
    obtain ⟨r, rfl⟩ := h.head
    exact ⟨.inr ⟨rfl, .inl rfl⟩, ih⟩
  | @steep p q l h ih =>
    obtain ⟨r, rfl⟩ := h.head
    refine ⟨.inl ⟨rfl, ?_⟩, ih⟩
    rcases hs with rfl | rfl
    · exact .inl rfl
    · exact .inr (by show p.2 = p.2 + -1 + 1; omega)
theorem ln_adj (c : Full t w h) (hu : onB w h u) (hv : onB w h v) : adjL (ln t u v) := by
  by_cases e : u.1 ≤ v.1
  · rw [ln_wk c hu hv e]
    obtain ⟨s, hs, H⟩ := half_of e
    exact (wkP (c (dist u v + 1)) hs hu hv H (by omega)).adj hs
  · have e' : v.1 ≤ u.1 := by omega
    rw [ln_kw c hv hu e']
    obtain ⟨s, hs, H⟩ := half_of e'
    exact adjL_rev ((wkP (c (dist v u + 1)) hs hv hu H (by omega)).adj hs)
def cl3 (t : Co → Co → L) (a b c : Co) : List Co := (ln t a b).dropLast ++ ((ln t b c).dropLast ++ (ln t c a).dropLast)
theorem ln_drop (c : Full t w h) (hu : onB w h u) (hv : onB w h v) : ln t u v = (ln t u v).dropLast ++ [v] := by
  obtain ⟨r, hr⟩ := ln_last c hu hv
  rw [hr]; simp
theorem cl3_close (c : Full t w h) (hp : onB w h p) (hq : onB w h q) (hr : onB w h r) : (∀ z, W (cl3 t p q r ++ [p]) z = Om t p q r z) ∧ adjL (cl3 t p q r ++ [p]) := by
  obtain ⟨x1, h1⟩ := ln_head c hq hr
  obtain ⟨x2, h2⟩ := ln_head c hr hp
  have d1 := ln_drop c hp hq
  have d2 := ln_drop c hq hr
  have d3 := ln_drop c hr hp
  have e1 : cl3 t p q r ++ [p] = (ln t p q).dropLast ++ ((ln t q r).dropLast ++ ln t r p) := by
    unfold cl3
    rw [List.append_assoc, List.append_assoc, ← d3]
  have e2 : (ln t q r).dropLast ++ ln t r p = q :: (x1 ++ x2) := by
    rw [h2, show (ln t q r).dropLast ++ r :: x2 = ((ln t q r).dropLast ++ [r]) ++ x2 by simp, ← d2, h1]; rfl
  constructor
  · intro z
    unfold Om
    rw [e1, e2, W_app, ← d1, ← e2, h2, W_app, ← d2, ← h2]
    omega
  · rw [e1, e2]
    refine adjL_app (by rw [← d1]; exact ln_adj c hp hq) ?_
    rw [← e2, h2]
    refine adjL_app (by rw [← d2]; exact ln_adj c hq hr) ?_
    rw [← h2]
    exact ln_adj c hr hp
theorem drop_mem (c : Full t w h) (hu : onB w h u) (hv : onB w h v) (hx : x ∈ (ln t u v).dropLast) : x ∈ ln t u v ∧ x ≠ v := by
  have nd := ln_nodup c hu hv
  have d := ln_drop c hu hv
  rw [d, List.nodup_append] at nd
  refine ⟨by rw [d]; exact List.mem_append_left _ hx, fun e => ?_⟩
  exact nd.2.2 x hx v (by simp) e
theorem drop_len (c : Full t w h) (hu : onB w h u) (hv : onB w h v) : (ln t u v).dropLast.length = dist u v := by
  rw [List.length_dropLast, ln_len c hu hv]; omega
theorem dist_tri : dist x z ≤ dist x y + dist y z := by unfold dist; omega
section
variable {kp kq kr : Co}
/-- the part of the line p q between the knees -/
theorem knee_seg (c : Full t w h) (hp : onB w h p) (hq : onB w h q) (a1 : kp ∈ ln t p q) (a2 : kq ∈ ln t p q) (o : dist p kp ≤ dist p kq) (hx : x ∈ ln t kp kq) : x ∈ ln t p q ∧ dist p kp ≤ dist p x ∧ dist p x ≤ dist p kq := by
  have hkp := ln_on c hp hq a1
  have hkq := ln_on c hp hq a2
  obtain ⟨b1, b2⟩ := ln_order c hp hq a1 a2 o
  have h1 := ln_part1 c hkp hq b2 hx
  have e1 := ln_dist c hkp hkq hx
  have e2 := ln_dist c hp hkq b1
  have t1 : dist p x ≤ dist p kp + dist kp x := dist_tri
  have t2 : dist p kq ≤ dist p x + dist x kq := dist_tri
  exact ⟨ln_part2 c hp hq a1 h1, by omega, by omega⟩
theorem knee_W (c : Full t w h) (hp : onB w h p) (hq : onB w h q) (a1 : kp ∈ ln t p q) (a2 : kq ∈ ln t p q) (o : dist p kp ≤ dist p kq) (z : Co) : W (ln t p q) z = W (ln t p kp) z + W (ln t kp kq) z + W (ln t kq q) z := by
  have hkp := ln_on c hp hq a1
  obtain ⟨b1, b2⟩ := ln_order c hp hq a1 a2 o
  rw [W_ln_split c hp hq a1, W_ln_split c hkp hq b2]
  omega
/-- on the line p q, a corner up to kq that lies on q r, too, is kq -/
theorem knee_only (c : Full t w h) (hp : onB w h p) (hq : onB w h q) (K2 : Knee t q r p kq) (hx : x ∈ ln t p q) (hx2 : x ∈ ln t q r) (hd : dist p x ≤ dist p kq) : x = kq := by
  have d1 := K2.last x hx2 hx
  have e1 := ln_dist c hp hq hx
  have e2 := ln_dist c hp hq K2.c
  have c1 : dist q x = dist x q := dist_comm
  have c2 : dist q kq = dist kq q := dist_comm
  exact ln_same c hp hq hx K2.c (by omega)
/-- the closed curve of the knees -/
theorem core (c : Full t w h) (hp : onB w h p) (hq : onB w h q) (hr : onB w h r) (K1 : Knee t p q r kp) (K2 : Knee t q r p kq) (K3 : Knee t r p q kr) (no : ∀ z, z ∈ ln t p q → z ∈ ln t q r → z ∈ ln t r p → False) :
    (∀ z, Om t kp kq kr z = Om t p q r z) ∧ (cl3 t kp kq kr).Nodup ∧ 4 ≤ (cl3 t kp kq kr).length := by
  have o1 := knee_order c hp hq hr K1 K2 no
  have o2 := knee_order c hq hr hp K2 K3 fun z a b d => no z d a b
  have o3 := knee_order c hr hp hq K3 K1 fun z a b d => no z b d a
  have hkp := ln_on c hp hq K1.a
  have hkq := ln_on c hq hr K2.a
  have hkr := ln_on c hr hp K3.a
  have s1 : ∀ {x}, x ∈ ln t kp kq → _ := fun {x} hx => knee_seg c hp hq K1.a K2.c (by omega) hx
  have s2 : ∀ {x}, x ∈ ln t kq kr → _ := fun {x} hx => knee_seg c hq hr K2.a K3.c (by omega) hx
  have s3 : ∀ {x}, x ∈ ln t kr kp → _ := fun {x} hx => knee_seg c hr hp K3.a K1.c (by omega) hx
  refine ⟨fun z => ?_, ?_, ?_⟩
  · unfold Om
    have w1 := knee_W c hp hq K1.a K2.c (by omega) z
    have w2 := knee_W c hq hr K2.a K3.c (by omega) z
    have w3 := knee_W c hr hp K3.a K1.c (by omega) z
    have r1 : W (ln t kp p) z = - W (ln t p kp) z := W_ln_rev z
    have r2 : W (ln t kq q) z = - W (ln t q kq) z := W_ln_rev z
    have r3 : W (ln t kr r) z = - W (ln t r kr) z := W_ln_rev z
    omega
  · unfold cl3
    have n1 := ln_nodup c hkp hkq
    have n2 := ln_nodup c hkq hkr
    have n3 := ln_nodup c hkr hkp
    rw [ln_drop c hkp hkq] at n1
    rw [ln_drop c hkq hkr] at n2
    rw [ln_drop c hkr hkp] at n3
    rw [List.nodup_append] at n1 n2 n3
    rw [List.nodup_append, List.nodup_append]
    refine ⟨n1.1, ⟨n2.1, n3.1, ?_⟩, ?_⟩
    · intro a ha b hb e
      subst e
      obtain ⟨a1, a2⟩ := drop_mem c hkq hkr ha
      obtain ⟨b1, b2⟩ := drop_mem c hkr hkp hb
      exact a2 (knee_only c hq hr K3 (s2 a1).1 (s3 b1).1 (s2 a1).2.2)
    · intro a ha b hb e
      subst e
      obtain ⟨a1, a2⟩ := drop_mem c hkp hkq ha
      rcases List.mem_append.mp hb with hb | hb
      · obtain ⟨b1, b2⟩ := drop_mem c hkq hkr hb
        exact a2 (knee_only c hp hq K2 (s1 a1).1 (s2 b1).1 (s1 a1).2.2)
      · obtain ⟨b1, b2⟩ := drop_mem c hkr hkp hb
        exact b2 (knee_only c hr hp K1 (s3 b1).1 (s1 a1).1 (s3 b1).2.2)
  · unfold cl3
    rw [List.length_append, List.length_append, drop_len c hkp hkq, drop_len c hkq hkr, drop_len c hkr hkp]
    have d1 : kp ≠ kq := fun e => by rw [e] at o1; omega
    have d2 : kq ≠ kr := fun e => by rw [e] at o2; omega
    have d3 : kr ≠ kp := fun e => by rw [e] at o3; omega
    have g1 : dist kp kq ≠ 0 := fun e => d1 (dist_zero e)
    have g2 : dist kq kr ≠ 0 := fun e => d2 (dist_zero e)
    have g3 : dist kr kp ≠ 0 := fun e => d3 (dist_zero e)
    have ev : (dist kp kq + (dist kq kr + dist kr kp)) % 2 = 0 := by unfold dist; omega
    omega
end
end Tri
end
section
set_option maxHeartbeats 4000000
namespace Cp
open PySem PySem.Spec PyProof.Rows L2
/-- a def stands behind the top -/
structure Has (K : PySem.W.Frag) (mg : Str → Option Value) (x qual : Str) (st : Stmt) : Prop where
  ok : ∃ f fd, FnP K x qual st f fd ∧ mg x = some (.ref f)
/-- the built-ins that the text uses, not hidden -/
structure Bi (mg : Str → Option Value) : Prop where
  len : mg "len" = none
  abs : mg "abs" = none
  int : mg "int" = none
  bool : mg "bool" = none
  min : mg "min" = none
  range : mg "range" = none
  list : mg "list" = none
  tuple : mg "tuple" = none
  enumerate : mg "enumerate" = none
  sorted : mg "sorted" = none
  zip : mg "zip" = none
  set : mg "set" = none
  isinstance : mg "isinstance" = none
section
variable {T : List (Addr × Str)} {P : Program} {w : World} {K : PySem.W.Frag} {mg : Str → Option Value} {base : Heap}
theorem fnD_at {x qual : Str} {st : Stmt} {N ps : List Str} {k : Nat} {R : List Dt → Dt → Prop} (h : Has K mg x qual st) (S : FnScope N ps (defScope st))
    (hp : ∀ (kV doc pm : Value) (an : Option Addr) (cdv ct : Value) (us : List Value), us.length = ps.length → bindArgs (PySem.W.fnOf x qual (defArgs st) (defBody st) (defScope st) .none kV doc pm an cdv ct) ⟨us, []⟩ = pure (ps.zip us))
    (hb : ∀ (f : Addr) (cdv : Value) (A : Around) (outer : List Env) (s : Shared) (H : Hp) (E : XK) (ds : List Dt) (d : Dt), Room k (A.deeper (envOfC qual (defScope st) s.heap.objs.size f cdv)) → ds.length = ps.length → R ds d →
      DSs T (bodyX P w K mg base N qual st f cdv A outer s H E) (ds.map .val ++ List.replicate (N.length - ps.length) .no) (defBody st) (endP d)) : FnD T P w K mg base x (k + 1) ps R := by
  obtain ⟨f, fd, F, hm⟩ := h.ok
  exact fnD_of F (fn_body F S k R (hb f)) hm hp
end
theorem u9 {k : Nat} {A : Around} (r : Room k A) : A.units + 9 < cLine := by have := r.units; omega
theorem u64 {k : Nat} {A : Around} (r : Room k A) : A.units + 64 < cLine := r.units
theorem u65 {k : Nat} {A : Around} (r : Room k A) : A.units + 65 < cLine := by have := r.un; omega
section
variable {T : List (Addr × Str)} {X : Cx} {ε : List Sl} {e a b c : Expr} {d d1 d2 : Dt} {pos : Pos} {P : Oc → Prop} {as bs : List Stmt}
theorem DG.cast (h : DE T X ε e d) (q : d = d1) : DE T X ε e d1 := q ▸ h
theorem DT.cast {b b' : Bool} (h : DT T X ε e b) (q : b = b') : DT T X ε e b' := q ▸ h
theorem d_ifT (hc : DT T X ε c true) (h1 : DSs T X ε as P) : DS T X ε (.If c as bs pos) P := d_if hc (fun _ => h1) (fun h => by cases h)
theorem d_ifF (hc : DT T X ε c false) (h1 : DSs T X ε bs P) : DS T X ε (.If c as bs pos) P := d_if hc (fun h => by cases h) (fun _ => h1)
theorem CmpD.cast {op : CmpOp} {b b' : Bool} (h : CmpD X op d1 d2 b) (q : b = b') : CmpD X op d1 d2 b' := q ▸ h
end
end Cp
end
section
set_option maxHeartbeats 4000000
namespace Cp
open PySem PySem.Spec PyProof.Rows L2
section
variable {T : List (Addr × Str)} {P : Program} {w : World} {K : PySem.W.Frag} {mg : Str → Option Value} {base : Heap}

/-! ### cells of the script, drawn numbers -/
def R_law_cell (ds : List Dt) (d : Dt) : Prop := ∃ r ns, ∃ k : Nat, k < 1000 ∧ ds = [.scr r ns, .int k] ∧ d = .int (ns.getD k 0)
theorem f_law_cell (B : Bi mg) (h : Has K mg "_law_cell" "_law_cell" s_law_cell) : FnD T P w K mg base "_law_cell" 1 ["_law_script", "_law_k"] R_law_cell := by
  refine fnD_at (N := ["_law_script", "_law_k"]) h ⟨rfl, rfl, rfl, by decide +kernel, rfl, by decide +kernel, by decide +kernel⟩ ?_ ?_
  · intro kV doc pm an cdv ct us hl
    match us, hl with
    | [a, b], _ => rfl
  · rintro f cdv A outer s H E ds d hr hl ⟨r, ns, k, hk, rfl, rfl⟩
    refine d_cons (d_if (dt_cmp c_lt (dv 1) (de_lenS B.len (dv 0)) rfl) (fun h1 => ?_) (fun h1 => ?_))
    · have h1 : k < ns.length := by simpa using h1
      refine d_one (d_ret (de_intOf B.int (de_ixS (z := ns.getD k 0) (dv 0) (dv 1) ?_)) rfl)
      unfold atI ixN
      simp [h1]
    · have h1 : ¬ k < ns.length := by simpa using h1
      refine d_nil (d_one (d_ret (de_int.cast ?_) rfl))
      rw [List.getD_eq_getElem?_getD, List.getElem?_eq_none (by omega)]; rfl
end
end Cp
end
section
set_option maxHeartbeats 4000000
namespace Cp
open PySem PySem.Spec PyProof.Rows L2
def iL (zs : List Int) : List Dt := zs.map Dt.int
theorem imm_iL (zs : List Int) : immAll (iL zs) = true := immAll_map (fun _ => rfl) zs
theorem iL_at {zs : List Int} {k : Nat} (h : k < zs.length) : atI (iL zs) (k : Nat) = some (.int (zs.getD k 0)) := by
  unfold atI ixN iL
  simp [h]
theorem iL_snoc (zs : List Int) (z : Int) : iL zs ++ [.int z] = iL (zs ++ [z]) := by unfold iL; simp
def bigF (c : Int) : Bool := decide ((10 : Int) ^ (18 : Int).toNat ≤ c)
def mixF (c : Int) (k : Nat) : Int :=
  (((((c + 7919 * (k : Nat) + 13) % 2147483647) * (((c + 7919 * (k : Nat) + 13) % 2147483647) + 48271)) % 2147483629 *
    ((((c + 7919 * (k : Nat) + 13) % 2147483647) * (((c + 7919 * (k : Nat) + 13) % 2147483647) + 48271)) % 2147483629 + 69621) + 31 * (k : Nat)) % 2147483647) / 9
def restF (c : Int) (zs : List Int) : Nat → Int
  | 0 => c
  | k + 1 => if (bigF c && decide (0 < restF c zs k)) = true then restF c zs k / zs.getD k 0 else restF c zs k
def drawF (c : Int) (zs : List Int) (k : Nat) : Int := if (bigF c && decide (0 < restF c zs k)) = true then restF c zs k % zs.getD k 0 else mixF c k % zs.getD k 0
def drawsF (c : Int) (zs : List Int) : List Int := (List.range zs.length).map (drawF c zs)
section
variable {T : List (Addr × Str)} {P : Program} {w : World} {K : PySem.W.Frag} {mg : Str → Option Value} {base : Heap}
def R_law_draws (ds : List Dt) (d : Dt) : Prop := ∃ c zs, zs.length ≤ 100 ∧ (∀ k, k < zs.length → 0 < zs.getD k 0 ∧ zs.getD k 0 < 1000) ∧ ds = [.int c, .lst (iL zs)] ∧ d = .lst (iL (drawsF c zs))
theorem f_law_draws (B : Bi mg) (h : Has K mg "_law_draws" "_law_draws" s_law_draws) : FnD T P w K mg base "_law_draws" 1 ["_law_cell_here", "_law_sizes"] R_law_draws := by
  refine fnD_at (N := ["_law_cell_here", "_law_sizes", "_law_drawn", "_law_rest", "_law_digits", "_law_k", "_law_size", "_law_mixed"]) h ⟨rfl, rfl, rfl, by decide +kernel, rfl, by decide +kernel, by decide +kernel⟩ ?_ ?_
  · intro kV doc pm an cdv ct us hl
    match us, hl with
    | [a, b], _ => rfl
  · rintro f cdv A outer s H E ds d hr hl ⟨c, zs, hlen, hz, rfl, rfl⟩
    have nd : (["_law_cell_here", "_law_sizes", "_law_drawn", "_law_rest", "_law_digits", "_law_k", "_law_size", "_law_mixed"] : List Str).Nodup := by decide +kernel
    have zl : (iL zs).length = zs.length := by unfold iL; simp
    refine d_cons (d_setO 2 nd (dn_lst da_nil rfl) ?_)
    refine d_cons (d_set 3 nd (DG.strong (de_intOf B.int (dv 0)) rfl) ?_)
    refine d_cons (d_set 4 nd (DG.strong (de_cmp c_ge (dv 3) (de_pow de_int de_int ⟨by decide, by decide, by decide⟩) rfl) rfl) ?_)
    refine d_cons (d_for (di_range1 B.range (de_lenL B.len (dv 1)) (by rw [zl]; omega)) (fun i hi => tg_name 5 nd) (fun i ε => ∃ xs r s5 s6 s7, ε = [.val (.int c), .val (.lst (iL zs)), .ol xs, .val (.int r), .val (.bl (bigF c)), s5, s6, s7] ∧ xs = iL ((List.range i).map (drawF c zs)) ∧ r = restF c zs i) ⟨_, _, _, _, _, rfl, rfl, rfl⟩ ?_ ?_)
    · rintro i ε' hi ⟨_, _, s5, s6, s7, rfl, rfl, rfl⟩
      have hi : i < zs.length := by rw [zl, Int.toNat_natCast] at hi; exact hi
      obtain ⟨z1, z2⟩ := hz i hi
      have hlen2 : (iL ((List.range i).map (drawF c zs))).length ≤ 100000 := by unfold iL; simp; omega
      refine d_cons (d_set 6 nd (DG.strong (de_ixL (dv 1) (dv 5) (iL_at hi)) rfl) ?_)
      refine d_one (d_if (dw_and (dt_val (dv 4)) fun _ => dw_and1 (dt_cmp c_gt (dv 3) de_int rfl)).dt (fun hb => ?_) (fun hb => ?_))
      · refine d_cons (d_app 2 rfl (de_mod (de_intOf B.int (dv 3)) (dv 6) z1) rfl hlen2 ?_)
        refine d_one (d_set 3 nd (DG.strong (de_fdiv (dv 3) (dv 6) ⟨z1, by omega⟩) rfl) ?_)
        have e1 : drawF c zs i = restF c zs i % zs.getD i 0 := if_pos hb
        have e2 : restF c zs (i + 1) = restF c zs i / zs.getD i 0 := if_pos hb
        exact ⟨_, _, _, _, _, rfl, by rw [List.range_succ, List.map_append, List.map_cons, List.map_nil, ← iL_snoc, e1], e2.symm⟩
      · refine d_cons (d_set 7 nd (DG.strong (de_mod (de_intOf B.int (de_add (de_add (dv 0) (de_mul de_int (dv 5) (.inl (by decide)))) de_int)) de_int (by decide)) rfl) ?_)
        have m1 : 0 ≤ (c + 7919 * (i : Nat) + 13) % 2147483647 := Int.emod_nonneg _ (by decide)
        have m2 : (c + 7919 * (i : Nat) + 13) % 2147483647 < 2147483647 := Int.emod_lt_of_pos _ (by decide)
        refine d_cons (d_set 7 nd (DG.strong (de_mod (de_intOf B.int (de_mul (dv 7) (de_add (dv 7) de_int) (.inl (by omega)))) de_int (by decide)) rfl) ?_)
        have m3 : 0 ≤ (((c + 7919 * (i : Nat) + 13) % 2147483647) * (((c + 7919 * (i : Nat) + 13) % 2147483647) + 48271)) % 2147483629 := Int.emod_nonneg _ (by decide)
        have m4 : (((c + 7919 * (i : Nat) + 13) % 2147483647) * (((c + 7919 * (i : Nat) + 13) % 2147483647) + 48271)) % 2147483629 < 2147483629 := Int.emod_lt_of_pos _ (by decide)
        refine d_cons (d_set 7 nd (DG.strong (de_mod (de_intOf B.int (de_add (de_mul (dv 7) (de_add (dv 7) de_int) (.inl (by omega))) (de_mul de_int (dv 5) (.inl (by decide))))) de_int (by decide)) rfl) ?_)
        refine d_one (d_app 2 rfl (de_mod (de_intOf B.int (de_fdiv (dv 7) de_int ⟨by decide, by decide⟩)) (dv 6) z1) rfl hlen2 ?_)
        have e1 : drawF c zs i = mixF c i % zs.getD i 0 := if_neg (by rw [hb]; decide)
        have e2 : restF c zs (i + 1) = restF c zs i := if_neg (by rw [hb]; decide)
        exact ⟨_, _, _, _, _, rfl, by rw [List.range_succ, List.map_append, List.map_cons, List.map_nil, ← iL_snoc, e1]; rfl, e2.symm⟩
    · rintro ε' ⟨_, _, s5, s6, s7, rfl, rfl, rfl⟩
      rw [zl, Int.toNat_natCast]
      exact d_one (d_retO 2 rfl rfl)
end
end Cp
end
section
set_option maxHeartbeats 4000000
namespace Cp
open PySem PySem.Spec PyProof.Rows L2

/-! ### letters, corners, grids -/
def lS : Tri.L → Str
  | .E => "E"
  | .N => "N"
  | .S => "S"
/-- the table tells t's letter -/
def TabAt (kvs : List (NK × Dt)) (t : Co → Co → Tri.L) (p q : Co) : Prop := p.2 ≠ q.2 → p.1 ≠ q.1 → getD kvs (pK p q) = some (.str (lS (t p q)))
def bD (W H : Nat) : Dt := cD ((W : Int), (H : Int))
def rowC (x : Nat) (n : Nat) : List Co := (List.range n).map fun y => (((x : Nat) : Int), ((y : Nat) : Int))
def gridC (m n : Nat) : List Co := ((List.range m).map fun x => rowC x n).flatten
theorem gridC_succ (m n : Nat) : gridC (m + 1) n = gridC m n ++ rowC m n := by
  unfold gridC
  rw [List.range_succ, List.map_append, List.flatten_append]; simp
theorem rowC_succ (x n : Nat) : rowC x (n + 1) = rowC x n ++ [(((x : Nat) : Int), ((n : Nat) : Int))] := by
  unfold rowC
  rw [List.range_succ, List.map_append]; rfl
theorem rowC_len (x n : Nat) : (rowC x n).length = n := by unfold rowC; simp
theorem gridC_len (n : Nat) : ∀ m, (gridC m n).length = m * n
  | 0 => by simp [gridC]
  | m + 1 => by rw [gridC_succ, List.length_append, gridC_len n m, rowC_len, Nat.succ_mul]
theorem gridC_mem {m n : Nat} {c : Co} : c ∈ gridC m n ↔ 0 ≤ c.1 ∧ c.1 < m ∧ 0 ≤ c.2 ∧ c.2 < n := by
  unfold gridC rowC
  rw [List.mem_flatten]
  constructor
  · rintro ⟨l, hl, hc⟩
    obtain ⟨x, hx, rfl⟩ := List.mem_map.mp hl
    obtain ⟨y, hy, rfl⟩ := List.mem_map.mp hc
    rw [List.mem_range] at hx hy
    simp only
    omega
  · rintro ⟨h1, h2, h3, h4⟩
    refine ⟨_, List.mem_map.mpr ⟨c.1.toNat, List.mem_range.mpr (by omega), rfl⟩, List.mem_map.mpr ⟨c.2.toNat, List.mem_range.mpr (by omega), ?_⟩⟩
    apply Prod.ext <;> simp only <;> omega
theorem cL_snoc (l : List Co) (c : Co) : cL l ++ [cD c] = cL (l ++ [c]) := by unfold cL; simp
theorem cL_app (l m : List Co) : cL l ++ cL m = cL (l ++ m) := by unfold cL; simp
theorem cL_len (l : List Co) : (cL l).length = l.length := by unfold cL; simp
theorem cL_get {l : List Co} {k : Nat} (h : k < l.length) : (cL l).getD k .non = cD (l.getD k (0, 0)) := by
  unfold cL
  rw [List.getD_eq_getElem?_getD, List.getElem?_map, List.getElem?_eq_getElem h, List.getD_eq_getElem?_getD, List.getElem?_eq_getElem h]; rfl
theorem cL_at {l : List Co} {k : Nat} (h : k < l.length) : atI (cL l) (k : Nat) = some (cD (l.getD k (0, 0))) := by
  unfold atI ixN cL
  simp [h]
theorem atI_nat {α : Type} {l : List α} {k : Nat} {a : α} (h : l[k]? = some a) : atI l (k : Nat) = some a := by
  have := (List.getElem?_eq_some_iff.mp h).1
  unfold atI ixN
  rw [if_pos (by omega), if_pos (by omega)]
  simpa using h
theorem atI_c0 (c : Co) : atI [Dt.int c.1, Dt.int c.2] 0 = some (.int c.1) := rfl
theorem atI_c1 (c : Co) : atI [Dt.int c.1, Dt.int c.2] 1 = some (.int c.2) := rfl
theorem cD_mk (x y : Int) : Dt.tup [.int x, .int y] = cD (x, y) := rfl
section
variable {T : List (Addr × Str)} {X : Cx} {ε : List Sl} {a b : Expr} {pos : Pos}
theorem de_c0 {c : Co} {i : Expr} (h : DE T X ε a (cD c)) (hi : DE T X ε i (.int 0)) (hs : PlainIx i := by intro _ _; rfl) : DE T X ε (.Subscript a i pos) (.int c.1) := de_ixT h hi (atI_c0 c) hs
theorem de_c1 {c : Co} {i : Expr} (h : DE T X ε a (cD c)) (hi : DE T X ε i (.int 1)) (hs : PlainIx i := by intro _ _; rfl) : DE T X ε (.Subscript a i pos) (.int c.2) := de_ixT h hi (atI_c1 c) hs
/-- (x, y) -/
theorem de_cD {x y : Int} {k1} (ha : DE T X ε a (.int x)) (hb : DE T X ε b (.int y)) (hs2 : starEach [b] X.env = (false, eval b X.env) :: starEach [] X.env := by rfl) (hs : starEach [a, b] X.env = (false, eval a X.env) :: starEach [b] X.env := by rfl) : DE T X ε (.Tuple [a, b] k1 pos) (cD (x, y)) :=
  de_tup (da_cons ha (da_cons hb da_nil hs2) hs)
theorem de_pD {p q : Co} {k1} (ha : DE T X ε a (cD p)) (hb : DE T X ε b (cD q)) (hs2 : starEach [b] X.env = (false, eval b X.env) :: starEach [] X.env := by rfl) (hs : starEach [a, b] X.env = (false, eval a X.env) :: starEach [b] X.env := by rfl) : DE T X ε (.Tuple [a, b] k1 pos) (pD p q) :=
  de_tup (da_cons ha (da_cons hb da_nil hs2) hs)
theorem de_gp {kvs : List (NK × Dt)} {p q : Co} {d : Dt} {o i : Expr} (hu : X.A.units + 9 < cLine) (ho : DE T X ε o (.dic kvs)) (hi : DE T X ε i (pD p q)) (hg : getD kvs (pK p q) = some d) (hs : NoSl i := by intro _ _; rfl) : DE T X ε (.Subscript o i pos) d :=
  de_dget [cK p, cK q] hu ho hi hg rfl (Nat.le_of_ble_eq_true rfl) hs
end
abbrev FD_law_cell (T : List (Addr × Str)) (P : Program) (w : World) (K : PySem.W.Frag) (mg : Str → Option Value) (base : Heap) : Prop := FnD T P w K mg base "_law_cell" 1 ["_law_script", "_law_k"] R_law_cell
abbrev FD_law_draws (T : List (Addr × Str)) (P : Program) (w : World) (K : PySem.W.Frag) (mg : Str → Option Value) (base : Heap) : Prop := FnD T P w K mg base "_law_draws" 1 ["_law_cell_here", "_law_sizes"] R_law_draws
section
variable {T : List (Addr × Str)} {P : Program} {w : World} {K : PySem.W.Frag} {mg : Str → Option Value} {base : Heap}
def szB (m : Int) : List Int := [8, m, m, m + 1, m + 1]
def boardF (c m : Int) : Co := if drawF c (szB m) 0 = 0 then (drawF c (szB m) 3, drawF c (szB m) 4) else (drawF c (szB m) 1 + 1, drawF c (szB m) 2 + 1)
theorem draws_at {c : Int} {zs : List Int} {k : Nat} (h : k < zs.length) : atI (iL (drawsF c zs)) (k : Nat) = some (.int (drawF c zs k)) := by
  rw [iL_at (by unfold drawsF; simpa using h)]
  unfold drawsF
  rw [List.getD_eq_getElem?_getD, List.getElem?_map, List.getElem?_range h]; rfl
def R_law_board (ds : List Dt) (d : Dt) : Prop := ∃ c m, 0 < m ∧ m < 100 ∧ ds = [.int c, .int m] ∧ d = cD (boardF c m)
abbrev FD_law_board (T : List (Addr × Str)) (P : Program) (w : World) (K : PySem.W.Frag) (mg : Str → Option Value) (base : Heap) : Prop := FnD T P w K mg base "_law_board" 2 ["_law_cell_here", "_law_most"] R_law_board
theorem f_law_board (B : Bi mg) (h : Has K mg "_law_board" "_law_board" s_law_board) (F_law_draws : FD_law_draws T P w K mg base) : FD_law_board T P w K mg base := by
  refine fnD_at (N := ["_law_cell_here", "_law_most", "_law_d"]) h ⟨rfl, rfl, rfl, by decide +kernel, rfl, by decide +kernel, by decide +kernel⟩ ?_ ?_
  · intro kV doc pm an cdv ct us hl
    match us, hl with
    | [u0, u1], _ => rfl
  · have nd : (["_law_cell_here", "_law_most", "_law_d"] : List Str).Nodup := by decide +kernel
    rintro f cdv A outer s H E ds d hr hl ⟨c, m, m1, m2, rfl, rfl⟩
    have zok : (szB m).length ≤ 100 ∧ ∀ k, k < (szB m).length → 0 < (szB m).getD k 0 ∧ (szB m).getD k 0 < 1000 := by
      refine ⟨by show 5 ≤ 100; omega, fun k hk => ?_⟩
      have hk : k < 5 := hk
      match k, hk with
      | 0, _ => show (0 : Int) < 8 ∧ (8 : Int) < 1000; omega
      | 1, _ => show 0 < m ∧ m < 1000; omega
      | 2, _ => show 0 < m ∧ m < 1000; omega
      | 3, _ => show 0 < m + 1 ∧ m + 1 < 1000; omega
      | 4, _ => show 0 < m + 1 ∧ m + 1 < 1000; omega
    refine d_cons (d_set 2 nd (DG.lst (dn_call (ds' := iL (drawsF c (szB m))) F_law_draws hr (da_cons (dv 0) (da_cons (dn_lst (da_cons de_int (da_cons (dv 1) (da_cons (dv 1) (da_cons (de_add (dv 1) de_int) (da_cons (de_add (dv 1) de_int) da_nil))))) rfl).lstW da_nil)) ⟨c, szB m, zok.1, zok.2, rfl, rfl⟩ (imm_iL _))) ?_)
    refine d_cons (d_if (dt_cmp c_eqI (de_ixL (dv 2) de_int (draws_at (zs := szB m) (k := 0) (by show 0 < 5; omega))) de_int rfl) (fun hb => ?_) (fun hb => ?_))
    · refine d_one (d_ret (de_cD (de_ixL (dv 2) de_int (draws_at (zs := szB m) (k := 3) (by show 3 < 5; omega))) (de_ixL (dv 2) de_int (draws_at (zs := szB m) (k := 4) (by show 4 < 5; omega)))) ?_)
      show cD _ = cD _
      unfold boardF
      rw [if_pos (by simpa using hb)]
    · refine d_nil (d_one (d_ret (de_cD (de_add (de_ixL (dv 2) de_int (draws_at (zs := szB m) (k := 1) (by show 1 < 5; omega))) de_int) (de_add (de_ixL (dv 2) de_int (draws_at (zs := szB m) (k := 2) (by show 2 < 5; omega))) de_int)) ?_))
      show cD _ = cD _
      unfold boardF
      rw [if_neg (by simpa using hb)]
def R_law_all_corners (ds : List Dt) (d : Dt) : Prop := ∃ W H : Nat, W ≤ 100 ∧ H ≤ 100 ∧ ds = [bD W H] ∧ d = .lst (cL (gridC (W + 1) (H + 1)))
abbrev FD_law_all_corners (T : List (Addr × Str)) (P : Program) (w : World) (K : PySem.W.Frag) (mg : Str → Option Value) (base : Heap) : Prop := FnD T P w K mg base "_law_all_corners" 1 ["_law_board_here"] R_law_all_corners
theorem f_law_all_corners (B : Bi mg) (h : Has K mg "_law_all_corners" "_law_all_corners" s_law_all_corners) : FD_law_all_corners T P w K mg base := by
  refine fnD_at (N := ["_law_board_here", "_law_found", "_law_x", "_law_y"]) h ⟨rfl, rfl, rfl, by decide +kernel, rfl, by decide +kernel, by decide +kernel⟩ ?_ ?_
  · intro kV doc pm an cdv ct us hl
    match us, hl with
    | [u0], _ => rfl
  · have nd : (["_law_board_here", "_law_found", "_law_x", "_law_y"] : List Str).Nodup := by decide +kernel
    rintro f cdv A outer s H E ds d hr hl ⟨W, H, hW, hH, rfl, rfl⟩
    have ew : (((W : Nat) : Int) + 1).toNat = W + 1 := by omega
    have eh : (((H : Nat) : Int) + 1).toNat = H + 1 := by omega
    refine d_cons (d_setO 1 nd (dn_lst da_nil rfl) ?_)
    refine d_cons (d_for (di_range1 B.range (de_add (de_c0 (dv 0) de_int) de_int) (by omega)) (fun i hi => tg_name 2 nd) (fun i ε => ∃ xs s2 s3, ε = [.val (bD W H), .ol xs, s2, s3] ∧ xs = cL (gridC i (H + 1))) ⟨_, _, _, rfl, rfl⟩ ?_ ?_)
    · rintro i ε' hi ⟨_, s2, s3, rfl, rfl⟩
      rw [ew] at hi
      refine d_one (d_for (di_range1 B.range (de_add (de_c1 (dv 0) de_int) de_int) (by omega)) (fun i hi => tg_name 3 nd) (fun j ε => ∃ xs s3, ε = [.val (bD W H), .ol xs, .val (.int (i : Nat)), s3] ∧ xs = cL (gridC i (H + 1) ++ rowC i j)) ⟨_, _, rfl, by simp [rowC]⟩ ?_ ?_)
      · rintro j ε' hj ⟨_, s3, rfl, rfl⟩
        rw [eh] at hj
        refine d_one (d_app 1 rfl (de_cD (dv 2) (dv 3)) rfl ?_ ⟨_, _, rfl, ?_⟩)
        · rw [cL_len, List.length_append, gridC_len, rowC_len]
          have : i * (H + 1) ≤ 101 * 101 := Nat.mul_le_mul (by omega) (by omega)
          omega
        · rw [rowC_succ, ← List.append_assoc, ← cL_snoc]
      · rintro ε' ⟨_, s3, rfl, rfl⟩
        exact ⟨_, _, _, rfl, by rw [eh, gridC_succ]⟩
    · rintro ε' ⟨_, s2, s3, rfl, rfl⟩
      rw [ew]
      exact d_one (d_retO 1 rfl rfl)
def R_law_all_cells (ds : List Dt) (d : Dt) : Prop := ∃ W H : Nat, W ≤ 100 ∧ H ≤ 100 ∧ ds = [bD W H] ∧ d = .lst (cL (gridC W H))
abbrev FD_law_all_cells (T : List (Addr × Str)) (P : Program) (w : World) (K : PySem.W.Frag) (mg : Str → Option Value) (base : Heap) : Prop := FnD T P w K mg base "_law_all_cells" 1 ["_law_board_here"] R_law_all_cells
theorem f_law_all_cells (B : Bi mg) (h : Has K mg "_law_all_cells" "_law_all_cells" s_law_all_cells) : FD_law_all_cells T P w K mg base := by
  refine fnD_at (N := ["_law_board_here", "_law_found", "_law_x", "_law_y"]) h ⟨rfl, rfl, rfl, by decide +kernel, rfl, by decide +kernel, by decide +kernel⟩ ?_ ?_
  · intro kV doc pm an cdv ct us hl
    match us, hl with
    | [u0], _ => rfl
  · have nd : (["_law_board_here", "_law_found", "_law_x", "_law_y"] : List Str).Nodup := by decide +kernel
    rintro f cdv A outer s H E ds d hr hl ⟨W, H, hW, hH, rfl, rfl⟩
    have ew : (((W : Nat) : Int)).toNat = W := by omega
    have eh : (((H : Nat) : Int)).toNat = H := by omega
    refine d_cons (d_setO 1 nd (dn_lst da_nil rfl) ?_)
    refine d_cons (d_for (di_range1 B.range (de_c0 (dv 0) de_int) (by omega)) (fun i hi => tg_name 2 nd) (fun i ε => ∃ xs s2 s3, ε = [.val (bD W H), .ol xs, s2, s3] ∧ xs = cL (gridC i H)) ⟨_, _, _, rfl, rfl⟩ ?_ ?_)
    · rintro i ε' hi ⟨_, s2, s3, rfl, rfl⟩
      rw [ew] at hi
      refine d_one (d_for (di_range1 B.range (de_c1 (dv 0) de_int) (by omega)) (fun i hi => tg_name 3 nd) (fun j ε => ∃ xs s3, ε = [.val (bD W H), .ol xs, .val (.int (i : Nat)), s3] ∧ xs = cL (gridC i H ++ rowC i j)) ⟨_, _, rfl, by simp [rowC]⟩ ?_ ?_)
      · rintro j ε' hj ⟨_, s3, rfl, rfl⟩
        rw [eh] at hj
        refine d_one (d_app 1 rfl (de_cD (dv 2) (dv 3)) rfl ?_ ⟨_, _, rfl, ?_⟩)
        · rw [cL_len, List.length_append, gridC_len, rowC_len]
          have : i * H ≤ 101 * 101 := Nat.mul_le_mul (by omega) (by omega)
          omega
        · rw [rowC_succ, ← List.append_assoc, ← cL_snoc]
      · rintro ε' ⟨_, s3, rfl, rfl⟩
        exact ⟨_, _, _, rfl, by rw [eh, gridC_succ]⟩
    · rintro ε' ⟨_, s2, s3, rfl, rfl⟩
      rw [ew]
      exact d_one (d_retO 1 rfl rfl)
def R_law_moved (ds : List Dt) (d : Dt) : Prop := ∃ c l, ds = [cD c, .str (lS l)] ∧ d = cD (Tri.mv c l)
abbrev FD_law_moved (T : List (Addr × Str)) (P : Program) (w : World) (K : PySem.W.Frag) (mg : Str → Option Value) (base : Heap) : Prop := FnD T P w K mg base "_law_moved" 1 ["_law_corner", "_law_letter_here"] R_law_moved
theorem f_law_moved (B : Bi mg) (h : Has K mg "_law_moved" "_law_moved" s_law_moved) : FD_law_moved T P w K mg base := by
  refine fnD_at (N := ["_law_corner", "_law_letter_here"]) h ⟨rfl, rfl, rfl, by decide +kernel, rfl, by decide +kernel, by decide +kernel⟩ ?_ ?_
  · intro kV doc pm an cdv ct us hl
    match us, hl with
    | [u0, u1], _ => rfl
  · have nd : (["_law_corner", "_law_letter_here"] : List Str).Nodup := by decide +kernel
    rintro f cdv A outer s H E ds d hr hl ⟨c, l, rfl, rfl⟩
    cases l with
    | E => exact d_cons (d_ifT ((dt_cmp c_eqS (dv 1) de_str rfl).cast (by decide)) (d_one (d_ret (de_cD (de_add (de_c0 (dv 0) de_int) de_int) (de_c1 (dv 0) de_int)) rfl)))
    | N => exact d_cons (d_ifF ((dt_cmp c_eqS (dv 1) de_str rfl).cast (by decide)) (d_nil (d_cons (d_ifT ((dt_cmp c_eqS (dv 1) de_str rfl).cast (by decide)) (d_one (d_ret (de_cD (de_c0 (dv 0) de_int) (de_add (de_c1 (dv 0) de_int) de_int)) rfl))))))
    | S => exact d_cons (d_ifF ((dt_cmp c_eqS (dv 1) de_str rfl).cast (by decide)) (d_nil (d_cons (d_ifF ((dt_cmp c_eqS (dv 1) de_str rfl).cast (by decide)) (d_nil (d_one (d_ret (de_cD (de_c0 (dv 0) de_int) (de_sub (de_c1 (dv 0) de_int) de_int)) rfl)))))))
def R_law_letter (ds : List Dt) (d : Dt) : Prop := ∃ kvs t p q, TabAt kvs t p q ∧ ds = [.dic kvs, cD p, cD q] ∧ d = .str (lS (Tri.fl t p q))
abbrev FD_law_letter (T : List (Addr × Str)) (P : Program) (w : World) (K : PySem.W.Frag) (mg : Str → Option Value) (base : Heap) : Prop := FnD T P w K mg base "_law_letter" 1 ["_law_table", "_law_p", "_law_q"] R_law_letter
theorem f_law_letter (B : Bi mg) (h : Has K mg "_law_letter" "_law_letter" s_law_letter) : FD_law_letter T P w K mg base := by
  refine fnD_at (N := ["_law_table", "_law_p", "_law_q"]) h ⟨rfl, rfl, rfl, by decide +kernel, rfl, by decide +kernel, by decide +kernel⟩ ?_ ?_
  · intro kV doc pm an cdv ct us hl
    match us, hl with
    | [u0, u1, u2], _ => rfl
  · have nd : (["_law_table", "_law_p", "_law_q"] : List Str).Nodup := by decide +kernel
    rintro f cdv A outer s H E ds d hr hl ⟨kvs, t, p, q, tab, rfl, rfl⟩
    refine d_cons (d_if (dt_cmp c_eqI (de_c1 (dv 1) de_int) (de_c1 (dv 2) de_int) rfl) (fun h1 => ?_) (fun h1 => d_nil ?_))
    · refine d_one (d_ret de_str ?_)
      show Dt.str _ = _
      rw [show Tri.fl t p q = .E from if_pos (by simpa using h1)]; rfl
    · have h1 : ¬ p.2 = q.2 := by simpa using h1
      refine d_cons (d_if (dt_cmp c_eqI (de_c0 (dv 1) de_int) (de_c0 (dv 2) de_int) rfl) (fun h2 => ?_) (fun h2 => d_nil ?_))
      · have h2 : p.1 = q.1 := by simpa using h2
        refine d_cons (d_if (dt_cmp c_lt (de_c1 (dv 1) de_int) (de_c1 (dv 2) de_int) rfl) (fun h3 => ?_) (fun h3 => d_nil ?_))
        · refine d_one (d_ret de_str ?_)
          show Dt.str _ = _
          rw [show Tri.fl t p q = .N by unfold Tri.fl; rw [if_neg h1, if_pos h2, if_pos (by simpa using h3)]]; rfl
        · refine d_one (d_ret de_str ?_)
          show Dt.str _ = _
          rw [show Tri.fl t p q = .S by unfold Tri.fl; rw [if_neg h1, if_pos h2, if_neg (by simpa using h3)]]; rfl
      · have h2 : ¬ p.1 = q.1 := by simpa using h2
        refine d_one (d_ret (de_gp (u9 hr) (dv 0) (de_pD (dv 1) (dv 2)) (tab h1 h2)) ?_)
        show Dt.str _ = _
        rw [show Tri.fl t p q = t p q by unfold Tri.fl; rw [if_neg h1, if_neg h2]]
def R_first_letter (ds : List Dt) (d : Dt) : Prop := ∃ kvs t p q, TabAt kvs t p q ∧ ds = [.dic kvs, cD p, cD q] ∧ d = .str (lS (Tri.fl t p q))
abbrev FD_first_letter (T : List (Addr × Str)) (P : Program) (w : World) (K : PySem.W.Frag) (mg : Str → Option Value) (base : Heap) : Prop := FnD T P w K mg base "first_letter" 1 ["table", "p", "q"] R_first_letter
theorem f_first_letter (B : Bi mg) (h : Has K mg "first_letter" "first_letter" s_first_letter) : FD_first_letter T P w K mg base := by
  refine fnD_at (N := ["table", "p", "q"]) h ⟨rfl, rfl, rfl, by decide +kernel, rfl, by decide +kernel, by decide +kernel⟩ ?_ ?_
  · intro kV doc pm an cdv ct us hl
    match us, hl with
    | [u0, u1, u2], _ => rfl
  · have nd : (["table", "p", "q"] : List Str).Nodup := by decide +kernel
    rintro f cdv A outer s H E ds d hr hl ⟨kvs, t, p, q, tab, rfl, rfl⟩
    refine d_cons (d_if (dt_cmp c_eqI (de_c1 (dv 1) de_int) (de_c1 (dv 2) de_int) rfl) (fun h1 => ?_) (fun h1 => d_nil ?_))
    · refine d_one (d_ret de_str ?_)
      show Dt.str _ = _
      rw [show Tri.fl t p q = .E from if_pos (by simpa using h1)]; rfl
    · have h1 : ¬ p.2 = q.2 := by simpa using h1
      refine d_cons (d_if (dt_cmp c_eqI (de_c0 (dv 1) de_int) (de_c0 (dv 2) de_int) rfl) (fun h2 => ?_) (fun h2 => d_nil ?_))
      · have h2 : p.1 = q.1 := by simpa using h2
        refine d_cons (d_if (dt_cmp c_lt (de_c1 (dv 1) de_int) (de_c1 (dv 2) de_int) rfl) (fun h3 => ?_) (fun h3 => d_nil ?_))
        · refine d_one (d_ret de_str ?_)
          show Dt.str _ = _
          rw [show Tri.fl t p q = .N by unfold Tri.fl; rw [if_neg h1, if_pos h2, if_pos (by simpa using h3)]]; rfl
        · refine d_one (d_ret de_str ?_)
          show Dt.str _ = _
          rw [show Tri.fl t p q = .S by unfold Tri.fl; rw [if_neg h1, if_pos h2, if_neg (by simpa using h3)]]; rfl
      · have h2 : ¬ p.1 = q.1 := by simpa using h2
        refine d_one (d_ret (de_gp (u9 hr) (dv 0) (de_pD (dv 1) (dv 2)) (tab h1 h2)) ?_)
        show Dt.str _ = _
        rw [show Tri.fl t p q = t p q by unfold Tri.fl; rw [if_neg h1, if_neg h2]]
end
end Cp
end
section
set_option maxHeartbeats 4000000
namespace Cp
open PySem PySem.Spec PyProof.Rows L2

theorem gt_one {kvs : List (NK × Dt)} : True := trivial
/-- a complete table, as a dict tells it -/
structure Tab (kvs : List (NK × Dt)) (t : Co → Co → Tri.L) (W H : Nat) : Prop where
  tab : ∀ p q, Tri.onB W H p → Tri.onB W H q → p.1 < q.1 → p.2 ≠ q.2 → getD kvs (pK p q) = some (.str (lS (t p q)))
  full : Tri.Full t W H
  w8 : W ≤ 8
  h8 : H ≤ 8
section
variable {kvs : List (NK × Dt)} {t : Co → Co → Tri.L} {W H : Nat} {p q u v : Co}
theorem Tab.at (c : Tab kvs t W H) (hp : Tri.onB W H p) (hq : Tri.onB W H q) (e : p.1 ≤ q.1) : TabAt kvs t p q := fun h1 h2 => c.tab p q hp hq (by omega) h1
theorem dist_le (w8 : W ≤ 8) (h8 : H ≤ 8) (hp : Tri.onB W H p) (hq : Tri.onB W H q) : Tri.dist p q ≤ 16 := by
  unfold Tri.dist
  unfold Tri.onB at hp hq
  omega
theorem Tab.walk (c : Tab kvs t W H) (hp : Tri.onB W H p) (hq : Tri.onB W H q) (e : p.1 ≤ q.1) : Tri.walk t 40 p q = Tri.wk t p q ∧ ∀ r ∈ Tri.walk t 40 p q, r ≠ q → TabAt kvs t r q := by
  have e40 := Tri.walk40 c.full hp hq e (Nat.le_trans (dist_le c.w8 c.h8 hp hq) (by decide))
  refine ⟨e40, fun r hr hne => ?_⟩
  rw [e40] at hr
  obtain ⟨s, hs, Hf⟩ := Tri.half_of e
  have P := Tri.wkP (c.full (Tri.dist p q + 1)) hs hp hq Hf (by omega)
  obtain ⟨_, h2, _⟩ := Tri.path_halves hs P hr
  exact c.at (Tri.path_on hs P hp hq r hr) hq h2.1
end
/-- the last corner of row that stands in other, or the first -/
def kneeF (row other : List Co) : Co := row.foldl (fun f c => if c ∈ other then c else f) (row.getD 0 (0, 0))
theorem knee_snoc (l other : List Co) (f0 c : Co) : (l ++ [c]).foldl (fun f c => if c ∈ other then c else f) f0 = if c ∈ other then c else l.foldl (fun f c => if c ∈ other then c else f) f0 := by
  rw [List.foldl_append]; rfl
theorem take_snoc {α : Type} {l : List α} {i : Nat} {d : α} (h : i < l.length) : l.take (i + 1) = l.take i ++ [l.getD i d] := by
  rw [List.take_add_one, List.getElem?_eq_getElem h, List.getD_eq_getElem?_getD, List.getElem?_eq_getElem h]; rfl
def insideF (c : Co) (cells : List Co) : Bool := decide ((c.1 - 1, c.2 - 1) ∈ cells) && (decide ((c.1 - 1, c.2) ∈ cells) && (decide ((c.1, c.2 - 1) ∈ cells) && decide ((c.1, c.2) ∈ cells)))
section
variable {T : List (Addr × Str)} {P : Program} {w : World} {K : PySem.W.Frag} {mg : Str → Option Value} {base : Heap}
def R_law_walk (ds : List Dt) (d : Dt) : Prop := ∃ kvs t p q, (∀ r ∈ Tri.walk t 40 p q, r ≠ q → TabAt kvs t r q) ∧ ds = [.dic kvs, cD p, cD q] ∧ d = .lst (cL (Tri.walk t 40 p q))
abbrev FD_law_walk (T : List (Addr × Str)) (P : Program) (w : World) (K : PySem.W.Frag) (mg : Str → Option Value) (base : Heap) : Prop := FnD T P w K mg base "_law_walk" 2 ["_law_table", "_law_p", "_law_q"] R_law_walk
theorem f_law_walk (B : Bi mg) (h : Has K mg "_law_walk" "_law_walk" s_law_walk) (F_law_moved : FD_law_moved T P w K mg base) (F_law_letter : FD_law_letter T P w K mg base) : FD_law_walk T P w K mg base := by
  refine fnD_at (N := ["_law_table", "_law_p", "_law_q", "_law_walked", "_law_k"]) h ⟨rfl, rfl, rfl, by decide +kernel, rfl, by decide +kernel, by decide +kernel⟩ ?_ ?_
  · intro kV doc pm an cdv ct us hl
    match us, hl with
    | [u0, u1, u2], _ => rfl
  · have nd : (["_law_table", "_law_p", "_law_q", "_law_walked", "_law_k"] : List Str).Nodup := by decide +kernel
    rintro f cdv A outer s H E ds d hr hl ⟨kvs, t, p, q, tab, rfl, rfl⟩
    refine d_cons (d_setO 3 nd (dn_lst (da_cons (dv 1) da_nil) rfl) ?_)
    refine d_cons (d_for (di_range1 B.range de_int (by omega)) (fun i hi => tg_name 4 nd) (fun i ε => ∃ xs pi pre s4, ε = [.val (.dic kvs), .val (cD pi), .val (cD q), .ol xs, s4] ∧ xs = cL (pre ++ [pi]) ∧ pre.length = i ∧ pre ++ Tri.walk t (40 - i) pi q = Tri.walk t 40 p q) ⟨_, p, [], _, rfl, rfl, rfl, rfl⟩ ?_ ?_)
    · rintro i ε' hi ⟨_, pi, pre, s4, rfl, rfl, hpl, hw⟩
      have hi : i < 40 := hi
      obtain ⟨m, hm⟩ : ∃ m, 40 - i = m + 1 := ⟨39 - i, by omega⟩
      rw [hm] at hw
      refine d_cons (d_if (dt_cmp (c_eqC (u64 hr)) (dv 1) (dv 2) rfl) (fun hb => ?_) (fun hb => ?_))
      · have hb : pi = q := by simpa using hb
        subst hb
        refine d_one (d_break ?_)
        refine d_one (d_retO 3 rfl ?_)
        show Dt.lst _ = _
        rw [← hw, Tri.walk_end]
      · have hb : ¬ pi = q := by simpa using hb
        have e1 : Tri.walk t (m + 1) pi q = pi :: Tri.walk t m (Tri.mv pi (Tri.fl t pi q)) q := if_neg hb
        have hin : pi ∈ Tri.walk t 40 p q := by rw [← hw, e1]; simp
        have hta := tab pi hin hb
        refine d_nil (d_cons (d_set 1 nd (DG.strong (de_call (d := cD (Tri.mv pi (Tri.fl t pi q))) F_law_moved hr (da_cons (dv 1) (da_cons (de_call F_law_letter hr (da_cons (dv 0) (da_cons (dv 1) (da_cons (dv 2) da_nil))) ⟨kvs, t, pi, q, hta, rfl, rfl⟩) da_nil)) ⟨pi, Tri.fl t pi q, rfl, rfl⟩) rfl) ?_))
        refine d_one (d_app 3 rfl (dv 1) rfl ?_ ?_)
        · rw [cL_len]; simp; omega
        · refine ⟨_, Tri.mv pi (Tri.fl t pi q), pre ++ [pi], _, rfl, (cL_snoc _ _), by simp [hpl], ?_⟩
          rw [show 40 - (i + 1) = m by omega, List.append_assoc, ← hw, e1]; rfl
    · rintro ε' ⟨_, pi, pre, s4, rfl, rfl, hpl, hw⟩
      refine d_one (d_retO 3 rfl ?_)
      show Dt.lst _ = _
      rw [← hw]; rfl
def R_law_line (ds : List Dt) (d : Dt) : Prop := ∃ kvs t W H u v, Tab kvs t W H ∧ Tri.onB (W : Nat) (H : Nat) u ∧ Tri.onB (W : Nat) (H : Nat) v ∧ ds = [.dic kvs, cD u, cD v] ∧ d = .lst (cL (Tri.ln t u v))
abbrev FD_law_line (T : List (Addr × Str)) (P : Program) (w : World) (K : PySem.W.Frag) (mg : Str → Option Value) (base : Heap) : Prop := FnD T P w K mg base "_law_line" 3 ["_law_table", "_law_p", "_law_q"] R_law_line
theorem f_law_line (B : Bi mg) (h : Has K mg "_law_line" "_law_line" s_law_line) (F_law_walk : FD_law_walk T P w K mg base) : FD_law_line T P w K mg base := by
  refine fnD_at (N := ["_law_table", "_law_p", "_law_q"]) h ⟨rfl, rfl, rfl, by decide +kernel, rfl, by decide +kernel, by decide +kernel⟩ ?_ ?_
  · intro kV doc pm an cdv ct us hl
    match us, hl with
    | [u0, u1, u2], _ => rfl
  · have nd : (["_law_table", "_law_p", "_law_q"] : List Str).Nodup := by decide +kernel
    rintro f cdv A outer s H E ds d hr hl ⟨kvs, t, W, Hh, u, v, tab, hu, hv, rfl, rfl⟩
    refine d_cons (d_if (dt_cmp (c_ltC hr.units0) (dv 2) (dv 1) rfl) (fun hb => ?_) (fun hb => d_nil ?_))
    · have hb : Tri.lt v u := by simpa using hb
      obtain ⟨e1, e2⟩ := tab.walk hv hu (by unfold Tri.lt at hb; omega)
      refine d_one (d_retN (dn_rev (dn_call (ds' := cL (Tri.walk t 40 v u)) F_law_walk hr (da_cons (dv 0) (da_cons (dv 2) (da_cons (dv 1) da_nil))) ⟨kvs, t, v, u, e2, rfl, rfl⟩ (imm_cL _)).lstW (imm_cL _)) ?_)
      show Dt.lst _ = _
      unfold Tri.ln
      rw [if_pos hb, e1]
      unfold cL
      rw [List.map_reverse]
    · have hb : ¬ Tri.lt v u := by simpa using hb
      obtain ⟨e1, e2⟩ := tab.walk hu hv (by unfold Tri.lt at hb; omega)
      refine d_one (d_retN (dn_call (ds' := cL (Tri.walk t 40 u v)) F_law_walk hr (da_cons (dv 0) (da_cons (dv 1) (da_cons (dv 2) da_nil))) ⟨kvs, t, u, v, e2, rfl, rfl⟩ (imm_cL _)) ?_)
      show Dt.lst _ = _
      unfold Tri.ln
      rw [if_neg hb, e1]
def R_law_knee (ds : List Dt) (d : Dt) : Prop := ∃ row other, row ≠ [] ∧ row.length < 1000 ∧ ds = [.lst (cL row), .lst (cL other)] ∧ d = cD (kneeF row other)
abbrev FD_law_knee (T : List (Addr × Str)) (P : Program) (w : World) (K : PySem.W.Frag) (mg : Str → Option Value) (base : Heap) : Prop := FnD T P w K mg base "_law_knee" 1 ["_law_row", "_law_other"] R_law_knee
theorem f_law_knee (B : Bi mg) (h : Has K mg "_law_knee" "_law_knee" s_law_knee) : FD_law_knee T P w K mg base := by
  refine fnD_at (N := ["_law_row", "_law_other", "_law_found", "_law_corner"]) h ⟨rfl, rfl, rfl, by decide +kernel, rfl, by decide +kernel, by decide +kernel⟩ ?_ ?_
  · intro kV doc pm an cdv ct us hl
    match us, hl with
    | [u0, u1], _ => rfl
  · have nd : (["_law_row", "_law_other", "_law_found", "_law_corner"] : List Str).Nodup := by decide +kernel
    rintro f cdv A outer s H E ds d hr hl ⟨row, other, hne, hl2, rfl, rfl⟩
    have h0 : 0 < row.length := List.length_pos_iff.mpr hne
    refine d_cons (d_set 2 nd (DG.strong (de_ixL (dv 0) de_int (cL_at h0)) rfl) ?_)
    refine d_cons (d_for (di_list (bv 0)) (fun i hi => tg_name 3 nd) (fun i ε => ∃ f s3, ε = [.val (.lst (cL row)), .val (.lst (cL other)), .val (cD f), s3] ∧ f = (row.take i).foldl (fun f c => if c ∈ other then c else f) (row.getD 0 (0, 0))) ⟨_, _, rfl, rfl⟩ ?_ ?_)
    · rintro i ε' hi ⟨_, s3, rfl, rfl⟩
      rw [cL_len] at hi
      rw [cL_get hi]
      have et := take_snoc (d := ((0, 0) : Co)) hi
      refine d_one (d_if (dt_cmp (c_inL (u65 hr)) (dv 3) (dv 1) rfl) (fun hb => ?_) (fun hb => ?_))
      · refine d_one (d_set 2 nd (DG.strong (dv 3) rfl) ⟨_, _, rfl, ?_⟩)
        rw [et, knee_snoc, if_pos (by simpa using hb)]
      · refine d_nil ⟨_, _, rfl, ?_⟩
        rw [et, knee_snoc, if_neg (by simpa using hb)]
    · rintro ε' ⟨_, s3, rfl, rfl⟩
      refine d_one (d_ret (dv 2) ?_)
      show cD _ = cD _
      rw [cL_len, List.take_length]; rfl
def R_last_common (ds : List Dt) (d : Dt) : Prop := ∃ row other, row ≠ [] ∧ row.length < 1000 ∧ ds = [.lst (cL row), .lst (cL other)] ∧ d = cD (kneeF row other)
abbrev FD_last_common (T : List (Addr × Str)) (P : Program) (w : World) (K : PySem.W.Frag) (mg : Str → Option Value) (base : Heap) : Prop := FnD T P w K mg base "last_common" 1 ["row", "other"] R_last_common
theorem f_last_common (B : Bi mg) (h : Has K mg "last_common" "last_common" s_last_common) : FD_last_common T P w K mg base := by
  refine fnD_at (N := ["row", "other", "found", "corner"]) h ⟨rfl, rfl, rfl, by decide +kernel, rfl, by decide +kernel, by decide +kernel⟩ ?_ ?_
  · intro kV doc pm an cdv ct us hl
    match us, hl with
    | [u0, u1], _ => rfl
  · have nd : (["row", "other", "found", "corner"] : List Str).Nodup := by decide +kernel
    rintro f cdv A outer s H E ds d hr hl ⟨row, other, hne, hl2, rfl, rfl⟩
    have h0 : 0 < row.length := List.length_pos_iff.mpr hne
    refine d_cons (d_set 2 nd (DG.strong (de_ixL (dv 0) de_int (cL_at h0)) rfl) ?_)
    refine d_cons (d_for (di_list (bv 0)) (fun i hi => tg_name 3 nd) (fun i ε => ∃ f s3, ε = [.val (.lst (cL row)), .val (.lst (cL other)), .val (cD f), s3] ∧ f = (row.take i).foldl (fun f c => if c ∈ other then c else f) (row.getD 0 (0, 0))) ⟨_, _, rfl, rfl⟩ ?_ ?_)
    · rintro i ε' hi ⟨_, s3, rfl, rfl⟩
      rw [cL_len] at hi
      rw [cL_get hi]
      have et := take_snoc (d := ((0, 0) : Co)) hi
      refine d_one (d_if (dt_cmp (c_inL (u65 hr)) (dv 3) (dv 1) rfl) (fun hb => ?_) (fun hb => ?_))
      · refine d_one (d_set 2 nd (DG.strong (dv 3) rfl) ⟨_, _, rfl, ?_⟩)
        rw [et, knee_snoc, if_pos (by simpa using hb)]
      · refine d_nil ⟨_, _, rfl, ?_⟩
        rw [et, knee_snoc, if_neg (by simpa using hb)]
    · rintro ε' ⟨_, s3, rfl, rfl⟩
      refine d_one (d_ret (dv 2) ?_)
      show cD _ = cD _
      rw [cL_len, List.take_length]; rfl
def R_law_is_inside (ds : List Dt) (d : Dt) : Prop := ∃ c cells, ds = [cD c, .lst (cL cells)] ∧ d = .bl (insideF c cells)
abbrev FD_law_is_inside (T : List (Addr × Str)) (P : Program) (w : World) (K : PySem.W.Frag) (mg : Str → Option Value) (base : Heap) : Prop := FnD T P w K mg base "_law_is_inside" 1 ["_law_corner", "_law_cells"] R_law_is_inside
theorem f_law_is_inside (B : Bi mg) (h : Has K mg "_law_is_inside" "_law_is_inside" s_law_is_inside) : FD_law_is_inside T P w K mg base := by
  refine fnD_at (N := ["_law_corner", "_law_cells", "_law_x", "_law_y", "_law_spot"]) h ⟨rfl, rfl, rfl, by decide +kernel, rfl, by decide +kernel, by decide +kernel⟩ ?_ ?_
  · intro kV doc pm an cdv ct us hl
    match us, hl with
    | [u0, u1], _ => rfl
  · have nd : (["_law_corner", "_law_cells", "_law_x", "_law_y", "_law_spot"] : List Str).Nodup := by decide +kernel
    rintro f cdv A outer s H E ds d hr hl ⟨c, cells, rfl, rfl⟩
    refine d_cons (d_set 2 nd (DG.strong (de_c0 (dv 0) de_int) rfl) ?_)
    refine d_cons (d_set 3 nd (DG.strong (de_c1 (dv 0) de_int) rfl) ?_)
    let sp : List Co := [(c.1 - 1, c.2 - 1), (c.1 - 1, c.2), (c.1, c.2 - 1), (c.1, c.2)]
    refine d_cons (d_for (di_list (ds := cL sp) (DG.lst (dn_lst (da_cons (de_cD (de_sub (dv 2) de_int) (de_sub (dv 3) de_int)) (da_cons (de_cD (de_sub (dv 2) de_int) (dv 3)) (da_cons (de_cD (dv 2) (de_sub (dv 3) de_int)) (da_cons (de_cD (dv 2) (dv 3)) da_nil)))) rfl))) (fun i hi => tg_name 4 nd)
      (fun i ε => ∃ s4, ε = [.val (cD c), .val (.lst (cL cells)), .val (.int c.1), .val (.int c.2), s4] ∧ ∀ x ∈ sp.take i, x ∈ cells) ⟨_, rfl, by simp⟩ ?_ ?_)
    · rintro i ε' hi ⟨s4, rfl, hall⟩
      have hi : i < sp.length := hi
      rw [cL_get hi]
      refine d_one (d_if (dt_cmp (c_ninL (u65 hr)) (dv 4) (dv 1) rfl) (fun hb => ?_) (fun hb => ?_))
      · have hb : ¬ sp.getD i (0, 0) ∈ cells := by simpa using hb
        refine d_one (d_ret de_bl ?_)
        show Dt.bl false = _
        have : insideF c cells = false := by
          cases q : insideF c cells with
          | false => rfl
          | true =>
            exfalso
            apply hb
            unfold insideF at q
            simp only [Bool.and_eq_true, decide_eq_true_eq] at q
            obtain ⟨q1, q2, q3, q4⟩ := q
            have hi : i < 4 := hi
            match i, hi with
            | 0, _ => exact q1
            | 1, _ => exact q2
            | 2, _ => exact q3
            | 3, _ => exact q4
        rw [this]
      · have hb : sp.getD i (0, 0) ∈ cells := by simpa using hb
        refine d_nil ⟨_, rfl, fun x hx => ?_⟩
        rw [take_snoc (d := ((0, 0) : Co)) hi] at hx
        rcases List.mem_append.mp hx with h | h
        · exact hall x h
        · have h : x = sp.getD i (0, 0) := by simpa using h
          rw [h]; exact hb
    · rintro ε' ⟨s4, rfl, hall⟩
      refine d_one (d_ret de_bl ?_)
      show Dt.bl true = _
      have hall : ∀ x ∈ sp, x ∈ cells := hall
      have : insideF c cells = true := by
        unfold insideF
        simp only [Bool.and_eq_true, decide_eq_true_eq]
        exact ⟨hall _ (by simp [sp]), hall _ (by simp [sp]), hall _ (by simp [sp]), hall _ (by simp [sp])⟩
      rw [this]
def R_law_has_double (ds : List Dt) (d : Dt) : Prop := ∃ row : List Co, row.Nodup ∧ row.length < 1000 ∧ ds = [.lst (cL row)] ∧ d = .bl false
abbrev FD_law_has_double (T : List (Addr × Str)) (P : Program) (w : World) (K : PySem.W.Frag) (mg : Str → Option Value) (base : Heap) : Prop := FnD T P w K mg base "_law_has_double" 1 ["_law_row"] R_law_has_double
theorem f_law_has_double (B : Bi mg) (h : Has K mg "_law_has_double" "_law_has_double" s_law_has_double) : FD_law_has_double T P w K mg base := by
  refine fnD_at (N := ["_law_row", "_law_k"]) h ⟨rfl, rfl, rfl, by decide +kernel, rfl, by decide +kernel, by decide +kernel⟩ ?_ ?_
  · intro kV doc pm an cdv ct us hl
    match us, hl with
    | [u0], _ => rfl
  · have nd : (["_law_row", "_law_k"] : List Str).Nodup := by decide +kernel
    rintro f cdv A outer s H E ds d hr hl ⟨row, hnd, hl2, rfl, rfl⟩
    refine d_cons (d_for (di_range1 B.range (de_lenL B.len (dv 0)) (by rw [cL_len]; omega)) (fun i hi => tg_name 1 nd) (fun i ε => ∃ s1, ε = [.val (.lst (cL row)), s1]) ⟨_, rfl⟩ ?_ ?_)
    · rintro i ε' hi ⟨s1, rfl⟩
      have hi : i < row.length := by rw [cL_len, Int.toNat_natCast] at hi; exact hi
      have ec : cutD (cL row) none (some (i : Nat)) = cL (row.take i) := by
        have e1 : HT.sIx (cL row).length 0 none = 0 := rfl
        have e2 : HT.sIx (cL row).length (cL row).length (some ((i : Nat) : Int)) = i := by rw [cL_len, HT.sIx_nat]; omega
        unfold cutD
        rw [e1, e2]
        unfold cL
        rw [List.map_take]; simp
      refine d_one (d_ifF ((dt_cmp (c_inL (l := row.take i) (u65 hr)) (de_ixL (dv 0) (dv 1) (cL_at hi)) ((dn_upto (dv 0) (dv 1) (imm_cL _)).lstW.cast (by rw [ec])) rfl).cast ?_) (d_nil ⟨_, rfl⟩))
      rw [decide_eq_false_iff_not]
      intro hm
      obtain ⟨j, hj, e⟩ := List.mem_iff_getElem.mp hm
      rw [List.length_take] at hj
      rw [List.getElem_take, List.getD_eq_getElem?_getD, List.getElem?_eq_getElem hi] at e
      have e : row[j] = row[i] := e
      have := (List.getElem_inj hnd).mp e
      omega
    · rintro ε' ⟨s1, rfl⟩
      exact d_one (d_ret de_bl rfl)
def R_law_is_integer (ds : List Dt) (d : Dt) : Prop := ∃ i, ds = [.int i] ∧ d = .bl true
abbrev FD_law_is_integer (T : List (Addr × Str)) (P : Program) (w : World) (K : PySem.W.Frag) (mg : Str → Option Value) (base : Heap) : Prop := FnD T P w K mg base "_law_is_integer" 1 ["_law_told"] R_law_is_integer
theorem f_law_is_integer (B : Bi mg) (h : Has K mg "_law_is_integer" "_law_is_integer" s_law_is_integer) : FD_law_is_integer T P w K mg base := by
  refine fnD_at (N := ["_law_told"]) h ⟨rfl, rfl, rfl, by decide +kernel, rfl, by decide +kernel, by decide +kernel⟩ ?_ ?_
  · intro kV doc pm an cdv ct us hl
    match us, hl with
    | [u0], _ => rfl
  · have nd : (["_law_told"] : List Str).Nodup := by decide +kernel
    rintro f cdv A outer s H E ds d hr hl ⟨i, rfl, rfl⟩
    exact d_one (d_ret (de_and (de_isi (b' := true) (m := "int") B.isinstance B.int (dv 0) rfl (by decide +kernel) (by decide +kernel)) fun _ => de_one (de_not (de_isi (b' := false) (m := "bool") B.isinstance B.bool (dv 0) rfl (by decide +kernel) (by decide +kernel)))) rfl)
def R_law_is_corner (ds : List Dt) (d : Dt) : Prop := ∃ c, ds = [cD c] ∧ d = .bl true
abbrev FD_law_is_corner (T : List (Addr × Str)) (P : Program) (w : World) (K : PySem.W.Frag) (mg : Str → Option Value) (base : Heap) : Prop := FnD T P w K mg base "_law_is_corner" 2 ["_law_told"] R_law_is_corner
theorem f_law_is_corner (B : Bi mg) (h : Has K mg "_law_is_corner" "_law_is_corner" s_law_is_corner) (F_law_is_integer : FD_law_is_integer T P w K mg base) : FD_law_is_corner T P w K mg base := by
  refine fnD_at (N := ["_law_told"]) h ⟨rfl, rfl, rfl, by decide +kernel, rfl, by decide +kernel, by decide +kernel⟩ ?_ ?_
  · intro kV doc pm an cdv ct us hl
    match us, hl with
    | [u0], _ => rfl
  · have nd : (["_law_told"] : List Str).Nodup := by decide +kernel
    rintro f cdv A outer s H E ds d hr hl ⟨c, rfl, rfl⟩
    exact d_one (d_ret (de_and (de_isi (b' := true) (m := "tuple") B.isinstance B.tuple (dv 0) rfl (by decide +kernel) (by decide +kernel)) fun _ => de_and (de_cmp (c_eqI.cast (b' := true) rfl) (de_lenT B.len (dv 0)) de_int rfl) fun _ =>
      de_and (de_call F_law_is_integer hr (da_cons (de_c0 (dv 0) de_int) da_nil) ⟨c.1, rfl, rfl⟩) fun _ => de_one (de_call F_law_is_integer hr (da_cons (de_c1 (dv 0) de_int) da_nil) ⟨c.2, rfl, rfl⟩)) rfl)
def R_law_is_path (ds : List Dt) (d : Dt) : Prop := ∃ l wt, l.length < 1000 ∧ (wt = .tup (cL l) ∨ wt = .lst (cL l)) ∧ ds = [.tup (cL l), wt] ∧ d = .bl true
abbrev FD_law_is_path (T : List (Addr × Str)) (P : Program) (w : World) (K : PySem.W.Frag) (mg : Str → Option Value) (base : Heap) : Prop := FnD T P w K mg base "_law_is_path" 3 ["_law_told", "_law_wanted"] R_law_is_path
theorem f_law_is_path (B : Bi mg) (h : Has K mg "_law_is_path" "_law_is_path" s_law_is_path) (F_law_is_corner : FD_law_is_corner T P w K mg base) : FD_law_is_path T P w K mg base := by
  refine fnD_at (N := ["_law_told", "_law_wanted", "_law_k"]) h ⟨rfl, rfl, rfl, by decide +kernel, rfl, by decide +kernel, by decide +kernel⟩ ?_ ?_
  · intro kV doc pm an cdv ct us hl
    match us, hl with
    | [u0, u1], _ => rfl
  · have nd : (["_law_told", "_law_wanted", "_law_k"] : List Str).Nodup := by decide +kernel
    rintro f cdv A outer s H E ds d hr hl ⟨l, wt, hl2, hw, rfl, rfl⟩
    have hlen : ∀ {ε : List Sl} {p pos : Pos} {kk}, DE T (bodyX P w K mg base ["_law_told", "_law_wanted", "_law_k"] "_law_is_path" s_law_is_path f cdv A outer s H E) (.val (.tup (cL l)) :: .val wt :: ε) (.Call (.Name "len" p) [.Name "_law_wanted" kk] [] pos) (.int (l.length : Nat)) := by
      intro ε p pos kk
      rcases hw with rfl | rfl
      · exact (de_lenT B.len (dv 1)).cast (by rw [cL_len])
      · exact (de_lenL B.len (dv 1)).cast (by rw [cL_len])
    refine d_cons (d_ifF (dw_or (b1 := false) (b2 := false) ((dt_not (dt_val (de_isi (b' := true) (m := "tuple") B.isinstance B.tuple (dv 0) rfl (by decide +kernel) (by decide +kernel))))) fun _ => dw_or1 ((dt_cmp c_neI (de_lenT B.len (dv 0)) hlen rfl).cast (by rw [cL_len]; simp))).dt (d_nil ?_))
    refine d_cons (d_for (di_range1 B.range hlen (by omega)) (fun i hi => tg_name 2 nd) (fun i ε => ∃ s2, ε = [.val (.tup (cL l)), .val wt, s2]) ⟨_, rfl⟩ ?_ ?_)
    · rintro i ε' hi ⟨s2, rfl⟩
      have hi : i < l.length := by rw [Int.toNat_natCast] at hi; exact hi
      refine d_one (d_ifF (dw_or (b1 := false) (b2 := false) ((dt_not (dt_val (de_call (d := .bl true) F_law_is_corner hr (da_cons (de_ixT (dv 0) (dv 2) (cL_at hi)) da_nil) ⟨_, rfl, rfl⟩)))) fun _ => dw_or1 ?_).dt (d_nil ⟨_, rfl⟩))
      rcases hw with rfl | rfl
      · exact (dt_cmp (c_neC (u64 hr)) (de_ixT (dv 0) (dv 2) (cL_at hi)) (de_ixT (dv 1) (dv 2) (cL_at hi)) rfl).cast (by simp)
      · exact (dt_cmp (c_neC (u64 hr)) (de_ixT (dv 0) (dv 2) (cL_at hi)) (de_ixL (dv 1) (dv 2) (cL_at hi)) rfl).cast (by simp)
    · rintro ε' ⟨s2, rfl⟩
      exact d_one (d_ret de_bl rfl)
end
end Cp
end
section
set_option maxHeartbeats 4000000
namespace Cp
open PySem PySem.Spec PyProof.Rows L2

def twos : List Int := List.replicate 60 2
def bitsF (ns : List Int) (k : Nat) : List Int := drawsF (ns.getD k 0) twos ++ drawsF (ns.getD (k + 1) 0) twos
def szA : List Int := [8, 8, 2, 2]
def anyF (ns : List Int) : Co :=
  if 0 < drawF (ns.getD 3 0) szA 0 then boardF (ns.getD 0 0) 4
  else if drawF (ns.getD 3 0) szA 3 = 0 then (drawF (ns.getD 3 0) szA 1 + 1, drawF (ns.getD 3 0) szA 2 + 1) else (drawF (ns.getD 3 0) szA 2 + 1, drawF (ns.getD 3 0) szA 1 + 1)
theorem cut_init (l : List Co) : cutD (cL l) none (some (-1)) = cL l.dropLast := by
  have e1 : HT.sIx (cL l).length 0 none = 0 := rfl
  have e2 : HT.sIx (cL l).length (cL l).length (some (-1)) = l.length - 1 := by
    rw [cL_len]
    show (if (-1 : Int) < 0 then ((-1 : Int) + (l.length : Int)).toNat else min (-1 : Int).toNat l.length) = _
    rw [if_pos (by decide)]; omega
  unfold cutD
  rw [e1, e2, List.dropLast_eq_take]
  unfold cL
  rw [List.map_take]; simp
def gC (l : List Co) (k : Nat) : Co := l.getD k (0, 0)
def cwP (t : Co → Co → Tri.L) (chain : List Co) (k : Nat) : List Co := ((List.range k).map fun k => (Tri.ln t (gC chain k) (gC chain ((k + 1) % chain.length))).dropLast).flatten
/-- the closed walk of a chain -/
def cwF (t : Co → Co → Tri.L) (chain : List Co) : List Co := if cwP t chain chain.length = [] then [gC chain 0] else cwP t chain chain.length
theorem cwP_succ (t : Co → Co → Tri.L) (chain : List Co) (k : Nat) : cwP t chain (k + 1) = cwP t chain k ++ (Tri.ln t (gC chain k) (gC chain ((k + 1) % chain.length))).dropLast := by
  unfold cwP
  rw [List.range_succ, List.map_append, List.flatten_append]; simp
theorem gC_mem {l : List Co} {k : Nat} (h : k < l.length) : gC l k ∈ l := by
  unfold gC
  rw [List.getD_eq_getElem?_getD, List.getElem?_eq_getElem h]
  exact List.getElem_mem h
theorem cwP_len {t : Co → Co → Tri.L} {chain : List Co} {W H : Nat} (c : Tri.Full t W H) (w8 : W ≤ 8) (h8 : H ≤ 8) (hc : ∀ x ∈ chain, Tri.onB (W : Nat) (H : Nat) x) : ∀ k, k ≤ chain.length → (cwP t chain k).length ≤ 16 * k
  | 0, _ => by simp [cwP]
  | k + 1, h => by
    have hk : k < chain.length := h
    have h2 : (k + 1) % chain.length < chain.length := Nat.mod_lt _ (by omega)
    have ih := cwP_len c w8 h8 hc k (by omega)
    rw [cwP_succ, List.length_append, List.length_dropLast, Tri.ln_len c (hc _ (gC_mem hk)) (hc _ (gC_mem h2))]
    have := dist_le w8 h8 (hc _ (gC_mem hk)) (hc _ (gC_mem h2))
    omega

/-! ### dicts of cells -/
theorem cK_inj {a b : Co} (h : cK a = cK b) : a = b := by
  unfold cK at h
  injection h with h
  injection h with h1 h2
  injection h2 with h2 _
  injection h1 with h1
  injection h2 with h2
  exact Prod.ext h1 h2
def kvL (g : List Co) (f : Co → Int) : List (NK × Dt) := g.map fun z => (cK z, .int (f z))
theorem kvL_get {g : List Co} {f : Co → Int} {z : Co} (h : z ∈ g) : getD (kvL g f) (cK z) = some (.int (f z)) := by
  unfold getD kvL
  induction g with
  | nil => cases h
  | cons a g ih =>
    rw [List.map_cons]
    by_cases e : a = z
    · subst e; simp [List.find?_cons]
    · have : ¬ cK a = cK z := fun q => e (cK_inj q)
      rw [List.find?_cons, decide_eq_false this]
      exact ih ((List.mem_cons.mp h).resolve_left (fun q => e q.symm))
theorem kvL_none {g : List Co} {f : Co → Int} {z : Co} (h : z ∉ g) : getD (kvL g f) (cK z) = none := by
  unfold getD kvL
  induction g with
  | nil => rfl
  | cons a g ih =>
    rw [List.mem_cons, not_or] at h
    rw [List.map_cons, List.find?_cons, decide_eq_false (fun q => h.1 (cK_inj q).symm)]
    exact ih h.2
theorem kvL_put {g : List Co} {f : Co → Int} {z : Co} {v : Int} (h : z ∈ g) : putD (kvL g f) (cK z) (.int v) = kvL g (fun x => if x = z then v else f x) := by
  unfold putD
  rw [kvL_get h, if_pos (by rfl : (some _).isSome = true)]
  unfold kvL
  rw [List.map_map]
  refine List.map_congr_left fun x _ => ?_
  show (if cK x = cK z then (cK x, Dt.int v) else (cK x, Dt.int (f x))) = (cK x, Dt.int (if x = z then v else f x))
  by_cases e : x = z
  · rw [if_pos (by rw [e]), if_pos e]
  · rw [if_neg (fun q => e (cK_inj q)), if_neg e]
theorem kvL_new {g : List Co} {f : Co → Int} {z : Co} (h : z ∉ g) : putD (kvL g f) (cK z) (.int (f z)) = kvL (g ++ [z]) f := by
  unfold putD
  rw [kvL_none h, if_neg (by decide)]
  unfold kvL
  simp
theorem kvL_congr {g : List Co} {f f' : Co → Int} (h : ∀ z ∈ g, f z = f' z) : kvL g f = kvL g f' := List.map_congr_left fun z hz => by rw [h z hz]
theorem kvL_len (g : List Co) (f : Co → Int) : (kvL g f).length = g.length := by unfold kvL; simp
theorem rowC_nodup (x n : Nat) : (rowC x n).Nodup := by
  unfold rowC
  refine List.Pairwise.map _ (fun a b h e => h ?_) List.nodup_range
  have := (Prod.ext_iff.mp e).2
  simp only at this
  omega
theorem gridC_nodup (n : Nat) : ∀ m, (gridC m n).Nodup
  | 0 => by simp [gridC]
  | m + 1 => by
    rw [gridC_succ, List.nodup_append]
    refine ⟨gridC_nodup n m, rowC_nodup m n, fun a ha b hb e => ?_⟩
    subst e
    have := gridC_mem.mp ha
    obtain ⟨y, _, e⟩ := List.mem_map.mp hb
    have := (Prod.ext_iff.mp e).1
    simp only at this
    omega
def windK (l : List Co) (z : Co) : Nat → Int
  | 0 => 0
  | k + 1 => windK l z k + Tri.om (gC l k) (gC l ((k + 1) % l.length)) z
/-- the winding number of a closed walk at a cell -/
def windF (l : List Co) (z : Co) : Int := windK l z l.length
section
variable {T : List (Addr × Str)} {P : Program} {w : World} {K : PySem.W.Frag} {mg : Str → Option Value} {base : Heap}
def R_law_bits (ds : List Dt) (d : Dt) : Prop := ∃ r ns, ∃ k : Nat, k < 900 ∧ ds = [.scr r ns, .int k] ∧ d = .lst (iL (bitsF ns k))
abbrev FD_law_bits (T : List (Addr × Str)) (P : Program) (w : World) (K : PySem.W.Frag) (mg : Str → Option Value) (base : Heap) : Prop := FnD T P w K mg base "_law_bits" 2 ["_law_script", "_law_k"] R_law_bits
theorem f_law_bits (B : Bi mg) (h : Has K mg "_law_bits" "_law_bits" s_law_bits) (F_law_cell : FD_law_cell T P w K mg base) (F_law_draws : FD_law_draws T P w K mg base) : FD_law_bits T P w K mg base := by
  refine fnD_at (N := ["_law_script", "_law_k"]) h ⟨rfl, rfl, rfl, by decide +kernel, rfl, by decide +kernel, by decide +kernel⟩ ?_ ?_
  · intro kV doc pm an cdv ct us hl
    match us, hl with
    | [u0, u1], _ => rfl
  · have nd : (["_law_script", "_law_k"] : List Str).Nodup := by decide +kernel
    rintro f cdv A outer s H E ds d hr hl ⟨r, ns, k, hk, rfl, rfl⟩
    have zok : ∀ k, k < twos.length → 0 < twos.getD k 0 ∧ twos.getD k 0 < 1000 := by decide +kernel
    have e2 : (List.replicate ((60 : Int)).toNat [Dt.int 2]).flatten = iL twos := by rfl
    refine d_one (d_retN (dn_cat (dn_call (ds' := iL (drawsF (ns.getD k 0) twos)) F_law_draws hr (da_cons (de_call F_law_cell hr (da_cons (dv 0) (da_cons (dv 1) da_nil)) ⟨r, ns, k, by omega, rfl, rfl⟩) (da_cons (dn_rep (dn_lst (da_cons de_int da_nil) rfl).lstW de_int (by omega) (by decide) (by rw [e2]; exact imm_iL _)).lstW da_nil)) ⟨_, twos, by decide, zok, by rw [e2], rfl⟩ (imm_iL _)).lstW
      (dn_call (ds' := iL (drawsF (ns.getD (k + 1) 0) twos)) F_law_draws hr (da_cons (de_call F_law_cell hr (da_cons (dv 0) (da_cons (de_add (dv 1) de_int) da_nil)) ⟨r, ns, k + 1, by omega, rfl, rfl⟩) (da_cons (dn_rep (dn_lst (da_cons de_int da_nil) rfl).lstW de_int (by omega) (by decide) (by rw [e2]; exact imm_iL _)).lstW da_nil)) ⟨_, twos, by decide, zok, by rw [e2], rfl⟩ (imm_iL _)).lstW ?_ ?_) ?_)
    · unfold iL drawsF; simp [twos, sizeLine_eq]
    · have : iL (drawsF (ns.getD k 0) twos) ++ iL (drawsF (ns.getD (k + 1) 0) twos) = iL (bitsF ns k) := by unfold iL bitsF; simp
      rw [this]; exact imm_iL _
    · show Dt.lst _ = _
      unfold iL bitsF; simp
def R_law_any_board (ds : List Dt) (d : Dt) : Prop := ∃ r ns, ds = [.scr r ns] ∧ d = cD (anyF ns)
abbrev FD_law_any_board (T : List (Addr × Str)) (P : Program) (w : World) (K : PySem.W.Frag) (mg : Str → Option Value) (base : Heap) : Prop := FnD T P w K mg base "_law_any_board" 3 ["_law_script"] R_law_any_board
theorem f_law_any_board (B : Bi mg) (h : Has K mg "_law_any_board" "_law_any_board" s_law_any_board) (F_law_cell : FD_law_cell T P w K mg base) (F_law_draws : FD_law_draws T P w K mg base) (F_law_board : FD_law_board T P w K mg base) : FD_law_any_board T P w K mg base := by
  refine fnD_at (N := ["_law_script", "_law_d"]) h ⟨rfl, rfl, rfl, by decide +kernel, rfl, by decide +kernel, by decide +kernel⟩ ?_ ?_
  · intro kV doc pm an cdv ct us hl
    match us, hl with
    | [u0], _ => rfl
  · have nd : (["_law_script", "_law_d"] : List Str).Nodup := by decide +kernel
    rintro f cdv A outer s H E ds d hr hl ⟨r, ns, rfl, rfl⟩
    have zok : ∀ k, k < szA.length → 0 < szA.getD k 0 ∧ szA.getD k 0 < 1000 := by decide +kernel
    refine d_cons (d_set 1 nd (DG.lst (dn_call (ds' := iL (drawsF (ns.getD 3 0) szA)) F_law_draws hr (da_cons (de_call F_law_cell hr (da_cons (dv 0) (da_cons de_int da_nil)) ⟨r, ns, 3, by omega, rfl, rfl⟩) (da_cons (dn_lst (da_cons de_int (da_cons de_int (da_cons de_int (da_cons de_int da_nil)))) rfl).lstW da_nil)) ⟨_, szA, by decide, zok, rfl, rfl⟩ (imm_iL _))) ?_)
    refine d_cons (d_if (dt_cmp c_gt (de_ixL (dv 1) de_int (draws_at (zs := szA) (k := 0) (by decide))) de_int rfl) (fun hb => ?_) (fun hb => d_nil ?_))
    · refine d_one (d_ret (de_call (d := cD (boardF (ns.getD 0 0) 4)) F_law_board hr (da_cons (de_call F_law_cell hr (da_cons (dv 0) (da_cons de_int da_nil)) ⟨r, ns, 0, by omega, rfl, rfl⟩) (da_cons de_int da_nil)) ⟨_, 4, by omega, by omega, rfl, rfl⟩) ?_)
      show cD _ = cD _
      unfold anyF
      rw [if_pos (by simpa using hb)]
    · refine d_cons (d_if (dt_cmp c_eqI (de_ixL (dv 1) de_int (draws_at (zs := szA) (k := 3) (by decide))) de_int rfl) (fun hc => ?_) (fun hc => d_nil ?_))
      · refine d_one (d_ret (de_cD (de_add (de_ixL (dv 1) de_int (draws_at (zs := szA) (k := 1) (by decide))) de_int) (de_add (de_ixL (dv 1) de_int (draws_at (zs := szA) (k := 2) (by decide))) de_int)) ?_)
        show cD _ = cD _
        unfold anyF
        rw [if_neg (by simpa using hb), if_pos (by simpa using hc)]
      · refine d_one (d_ret (de_cD (de_add (de_ixL (dv 1) de_int (draws_at (zs := szA) (k := 2) (by decide))) de_int) (de_add (de_ixL (dv 1) de_int (draws_at (zs := szA) (k := 1) (by decide))) de_int)) ?_)
        show cD _ = cD _
        unfold anyF
        rw [if_neg (by simpa using hb), if_neg (by simpa using hc)]
def R_law_chain_walk (ds : List Dt) (d : Dt) : Prop := ∃ kvs t W H chain ct, Tab kvs t W H ∧ chain ≠ [] ∧ chain.length < 1000 ∧ (∀ x ∈ chain, Tri.onB (W : Nat) (H : Nat) x) ∧ (ct = .lst (cL chain) ∨ ct = .tup (cL chain)) ∧ ds = [.dic kvs, ct] ∧ d = .lst (cL (cwF t chain))
abbrev FD_law_chain_walk (T : List (Addr × Str)) (P : Program) (w : World) (K : PySem.W.Frag) (mg : Str → Option Value) (base : Heap) : Prop := FnD T P w K mg base "_law_chain_walk" 4 ["_law_table", "_law_chain"] R_law_chain_walk
theorem f_law_chain_walk (B : Bi mg) (h : Has K mg "_law_chain_walk" "_law_chain_walk" s_law_chain_walk) (F_law_line : FD_law_line T P w K mg base) : FD_law_chain_walk T P w K mg base := by
  refine fnD_at (N := ["_law_table", "_law_chain", "_law_walked", "_law_k"]) h ⟨rfl, rfl, rfl, by decide +kernel, rfl, by decide +kernel, by decide +kernel⟩ ?_ ?_
  · intro kV doc pm an cdv ct us hl
    match us, hl with
    | [u0, u1], _ => rfl
  · have nd : (["_law_table", "_law_chain", "_law_walked", "_law_k"] : List Str).Nodup := by decide +kernel
    rintro f cdv A outer s H E ds d hr hl ⟨kvs, t, W, Hh, chain, ct, tab, hne, hl2, hon, hct, rfl, rfl⟩
    have h0 : 0 < chain.length := List.length_pos_iff.mpr hne
    have hlen : ∀ {ε : List Sl} {p pos : Pos} {kk}, DE T (bodyX P w K mg base ["_law_table", "_law_chain", "_law_walked", "_law_k"] "_law_chain_walk" s_law_chain_walk f cdv A outer s H E) (.val (.dic kvs) :: .val ct :: ε) (.Call (.Name "len" p) [.Name "_law_chain" kk] [] pos) (.int (chain.length : Nat)) := by
      intro ε p pos kk
      rcases hct with rfl | rfl
      · exact (de_lenL B.len (dv 1)).cast (by rw [cL_len])
      · exact (de_lenT B.len (dv 1)).cast (by rw [cL_len])
    have hix : ∀ {ε : List Sl} {pos : Pos} {kk} {i : Expr} {k : Nat} {z : Int}, k < chain.length → z = (k : Nat) → DE T (bodyX P w K mg base ["_law_table", "_law_chain", "_law_walked", "_law_k"] "_law_chain_walk" s_law_chain_walk f cdv A outer s H E) (.val (.dic kvs) :: .val ct :: ε) i (.int z) → PlainIx i → DE T (bodyX P w K mg base ["_law_table", "_law_chain", "_law_walked", "_law_k"] "_law_chain_walk" s_law_chain_walk f cdv A outer s H E) (.val (.dic kvs) :: .val ct :: ε) (.Subscript (.Name "_law_chain" kk) i pos) (cD (gC chain k)) := by
      intro ε pos kk i k z hk hz hi hs
      subst hz
      rcases hct with rfl | rfl
      · exact de_ixL (dv 1) hi (cL_at hk) hs
      · exact de_ixT (dv 1) hi (cL_at hk) hs
    refine d_cons (d_setO 2 nd (dn_lst da_nil rfl) ?_)
    refine d_cons (d_for (di_range1 B.range hlen (by omega)) (fun i hi => tg_name 3 nd) (fun i ε => ∃ xs s3, ε = [.val (.dic kvs), .val ct, .ol xs, s3] ∧ xs = cL (cwP t chain i)) ⟨_, _, rfl, rfl⟩ ?_ ?_)
    · rintro i ε' hi ⟨_, s3, rfl, rfl⟩
      have hi : i < chain.length := by rw [Int.toNat_natCast] at hi; exact hi
      have hm : (i + 1) % chain.length < chain.length := Nat.mod_lt _ h0
      have e3 := cwP_succ t chain i
      refine d_one (d_setO 2 nd (dn_cat (dv 2) (dn_upto (dn_call (ds' := cL (Tri.ln t (gC chain i) (gC chain ((i + 1) % chain.length)))) F_law_line hr (da_cons (dv 0) (da_cons (hix (z := (i : Nat)) hi rfl (dv 3) (by intro _ _; rfl)) (da_cons (hix (z := (((i : Nat) : Int) + 1) % ((chain.length : Nat) : Int)) hm (by rw [Int.natCast_emod]; rfl) (de_mod (de_add (dv 3) de_int) hlen (by omega)) (by intro _ _; rfl)) da_nil))) ⟨kvs, t, W, Hh, _, _, tab, hon _ (gC_mem hi), hon _ (gC_mem hm), rfl, rfl⟩ (imm_cL _)).lstW (de_neg de_int) (imm_cL _)).lstW ?_ ?_) ⟨_, _, rfl, ?_⟩)
      · rw [cut_init, cL_len, cL_len]
        have := cwP_len tab.full tab.w8 tab.h8 hon (i + 1) hi
        rw [e3, List.length_append] at this
        rw [sizeLine_eq]; omega
      · rw [cut_init, cL_app]; exact imm_cL _
      · rw [cut_init, cL_app, e3]
    · rintro ε' ⟨_, s3, rfl, rfl⟩
      rw [Int.toNat_natCast]
      refine d_cons (d_if (dt_cmp c_eqI (de_lenL B.len (dv 2)) de_int rfl) (fun hb => ?_) (fun hb => d_nil ?_))
      · have hb : cwP t chain chain.length = [] := by
          have hb : (((cL (cwP t chain chain.length)).length : Nat) : Int) = 0 := by simpa using hb
          rw [cL_len] at hb
          exact List.length_eq_zero_iff.mp (by omega)
        refine d_one (d_setO 2 nd (dn_lst (da_cons (hix (k := 0) h0 rfl de_int (by intro _ _; rfl)) da_nil) rfl) ?_)
        refine d_one (d_retO 2 rfl ?_)
        show Dt.lst (cL [gC chain 0]) = _
        unfold cwF
        rw [if_pos hb]
      · refine d_one (d_retO 2 rfl ?_)
        show Dt.lst _ = _
        have hb : ¬ cwP t chain chain.length = [] := fun q => by rw [q] at hb; simp [cL] at hb
        unfold cwF
        rw [if_neg hb]
end
end Cp
end
section
set_option maxHeartbeats 4000000
namespace Cp
open PySem PySem.Spec PyProof.Rows L2

def szE (W H : Nat) : List Int := [12, 17, W + 1, H + 1, W + 1, H + 1, W + 1, H + 1]
/-- the three ends drawn -/
def endsF (t : Co → Co → Tri.L) (W H : Nat) (c : Int) : List Co :=
  let d := drawF c (szE W H)
  if d 0 = 0 then [(d 2, d 3), (d 2, d 3), (d 6, d 7)]
  else if d 0 = 1 then [(d 2, d 3), (d 6, d 7), (d 6, d 7)]
  else if d 0 = 2 then [(d 2, d 3), (d 2, d 3), (d 2, d 3)]
  else if d 0 = 3 then [(d 2, d 3), (d 4, d 5), gC (Tri.ln t (d 2, d 3) (d 4, d 5)) (d 1 % ((Tri.ln t (d 2, d 3) (d 4, d 5)).length : Nat)).toNat]
  else if d 0 = 4 ∨ d 0 = 5 then [(0, d 3), ((W : Int), d 5), (d 6, (H : Int) * (d 1 % 2))]
  else [(d 2, d 3), (d 4, d 5), (d 6, d 7)]
theorem draw_bd {c : Int} {zs : List Int} {k : Nat} (h : 0 < zs.getD k 0) : 0 ≤ drawF c zs k ∧ drawF c zs k < zs.getD k 0 := by
  unfold drawF
  split
  · exact ⟨Int.emod_nonneg _ (by omega), Int.emod_lt_of_pos _ h⟩
  · exact ⟨Int.emod_nonneg _ (by omega), Int.emod_lt_of_pos _ h⟩
theorem mod_at {l : List Co} {i : Int} (h0 : 0 ≤ i) (h1 : i < l.length) : atI (cL l) i = some (cD (gC l i.toNat)) := by
  have e : ((i.toNat : Nat) : Int) = i := by omega
  have := cL_at (l := l) (k := i.toNat) (by omega)
  rw [e] at this
  exact this
section
variable {T : List (Addr × Str)} {P : Program} {w : World} {K : PySem.W.Frag} {mg : Str → Option Value} {base : Heap}
def R_law_winds (ds : List Dt) (d : Dt) : Prop := ∃ W H : Nat, ∃ l : List Co, W ≤ 8 ∧ H ≤ 8 ∧ l ≠ [] ∧ l.length < 1000 ∧ (∀ x ∈ l, Tri.onB (W : Nat) (H : Nat) x) ∧ ds = [bD W H, .lst (cL l)] ∧ d = .dic (kvL (gridC W H) (windF l))
abbrev FD_law_winds (T : List (Addr × Str)) (P : Program) (w : World) (K : PySem.W.Frag) (mg : Str → Option Value) (base : Heap) : Prop := FnD T P w K mg base "_law_winds" 2 ["_law_board_here", "_law_walked"] R_law_winds
theorem f_law_winds (B : Bi mg) (h : Has K mg "_law_winds" "_law_winds" s_law_winds) (F_law_all_cells : FD_law_all_cells T P w K mg base) : FD_law_winds T P w K mg base := by
  refine fnD_at (N := ["_law_board_here", "_law_walked", "_law_winds_here", "_law_cell_here", "_law_k", "_law_a", "_law_b", "_law_x", "_law_spot"]) h ⟨rfl, rfl, rfl, by decide +kernel, rfl, by decide +kernel, by decide +kernel⟩ ?_ ?_
  · intro kV doc pm an cdv ct us hl
    match us, hl with
    | [u0, u1], _ => rfl
  · have nd : (["_law_board_here", "_law_walked", "_law_winds_here", "_law_cell_here", "_law_k", "_law_a", "_law_b", "_law_x", "_law_spot"] : List Str).Nodup := by decide +kernel
    rintro f cdv A outer s H E ds d hr hl ⟨W, Hh, l, w8, h8, hne, hl2, hon, rfl, rfl⟩
    have h0 : 0 < l.length := List.length_pos_iff.mpr hne
    have gl : (gridC W Hh).length ≤ 64 := by rw [gridC_len]; exact Nat.mul_le_mul w8 h8
    have gn := gridC_nodup Hh W
    refine d_cons (d_setD 2 nd dd_new ?_)
    refine d_cons (d_for (di_list (ds := cL (gridC W Hh)) (DG.lst (dn_call F_law_all_cells hr (da_cons (dv 0) da_nil) ⟨W, Hh, by omega, by omega, rfl, rfl⟩ (imm_cL _)))) (fun i hi => tg_name 3 nd) (fun i ε => ∃ kvs s3, ε = [.val (bD W Hh), .val (.lst (cL l)), .od kvs, s3, .no, .no, .no, .no, .no] ∧ kvs = kvL ((gridC W Hh).take i) (fun _ => 0)) ⟨_, _, rfl, rfl⟩ ?_ ?_)
    · rintro i ε' hi ⟨_, s3, rfl, rfl⟩
      rw [cL_len] at hi
      rw [cL_get hi]
      refine d_one (d_put 2 [.num _, .num _] (u9 hr) rfl (dv 3) de_int rfl ?_ ⟨_, _, rfl, ?_⟩)
      · rw [kvL_len]; have := List.length_take_le i (gridC W Hh); omega
      · rw [take_snoc (d := ((0, 0) : Co)) hi]
        refine kvL_new (f := fun _ => 0) ?_
        rw [List.getD_eq_getElem?_getD, List.getElem?_eq_getElem hi]
        show (gridC W Hh)[i] ∉ _
        intro hm
        obtain ⟨j, hj, e⟩ := List.mem_iff_getElem.mp hm
        rw [List.length_take] at hj
        rw [List.getElem_take] at e
        have := (List.getElem_inj gn).mp e
        omega
    · rintro ε' ⟨_, s3, rfl, rfl⟩
      rw [cL_len, List.take_length]
      refine d_cons (d_for (di_range1 B.range (de_lenL B.len (dv 1)) (by rw [cL_len]; omega)) (fun i hi => tg_name 4 nd) (fun k ε => ∃ kvs s3 s4 s5 s6 s7 s8, ε = [.val (bD W Hh), .val (.lst (cL l)), .od kvs, s3, s4, s5, s6, s7, s8] ∧ kvs = kvL (gridC W Hh) (fun z => windK l z k)) ⟨_, _, _, _, _, _, _, rfl, rfl⟩ ?_ ?_)
      · rintro k ε' hk ⟨_, s3, s4, s5, s6, s7, s8, rfl, rfl⟩
        have hk : k < l.length := by rw [cL_len, Int.toNat_natCast] at hk; exact hk
        have hm : (k + 1) % l.length < l.length := Nat.mod_lt _ h0
        have oa := hon _ (gC_mem hk)
        have ob := hon _ (gC_mem hm)
        refine d_cons (d_set 5 nd (DG.strong (de_ixL (d := cD (gC l k)) (dv 1) (dv 4) (cL_at hk)) rfl) ?_)
        refine d_cons (d_set 6 nd (DG.strong (de_ixL (d := cD (gC l ((k + 1) % l.length))) (i := (((k : Nat) : Int) + 1) % ((l.length : Nat) : Int)) (dv 1) ((de_mod (de_add (dv 4) de_int) (de_lenL B.len (dv 1)) (by rw [cL_len]; omega)).cast (by rw [cL_len])) (by rw [show (((k : Nat) : Int) + 1) % ((l.length : Nat) : Int) = (((k + 1) % l.length : Nat) : Int) by rw [Int.natCast_emod]; rfl]; exact cL_at hm)) rfl) ?_)
        generalize ha : gC l k = a at oa
        generalize hb : gC l ((k + 1) % l.length) = b at ob
        unfold Tri.onB at oa ob
        have wk1 : ∀ z, windK l z (k + 1) = windK l z k + Tri.om a b z := fun z => by rw [← ha, ← hb]; rfl
        refine d_one (d_if (dw_and (dt_cmp c_eqI (de_c0 (dv 5) de_int) (de_c0 (dv 6) de_int) rfl) fun _ => dw_and1 (dt_cmp c_neI (de_c1 (dv 5) de_int) (de_c1 (dv 6) de_int) rfl)).dt (fun hc => ?_) (fun hc => ?_))
        · simp only [Bool.and_eq_true, decide_eq_true_eq, Bool.not_eq_true', decide_eq_false_iff_not] at hc
          obtain ⟨hc1, hc2⟩ := hc
          have em : (if b.2 < a.2 then b.2 else a.2) = min a.2 b.2 := by
            by_cases q : b.2 < a.2
            · rw [if_pos q]; omega
            · rw [if_neg q]; omega
          refine d_one (d_for (di_range1 B.range (de_c0 (dv 5) de_int) (by omega)) (fun i hi => tg_name 7 nd) (fun j ε => ∃ kvs s3 s7 s8, ε = [.val (bD W Hh), .val (.lst (cL l)), .od kvs, s3, .val (.int (k : Nat)), .val (cD a), .val (cD b), s7, s8] ∧ kvs = kvL (gridC W Hh) (fun z => windK l z k + if z.1 < (j : Nat) ∧ min a.2 b.2 = z.2 then b.2 - a.2 else 0)) ⟨_, _, _, _, rfl, ?_⟩ ?_ ?_)
          · refine kvL_congr fun z hz => ?_
            have := gridC_mem.mp hz
            rw [if_neg (by omega)]; omega
          · rintro j ε' hj ⟨_, s3, s7, s8, rfl, rfl⟩
            have hz : (((j : Nat) : Int), min a.2 b.2) ∈ gridC W Hh := gridC_mem.mpr (by simp only; omega)
            refine d_cons (d_set 8 nd (DG.strong ((de_cD (dv 7) (de_min B.min (de_c1 (dv 5) de_int) (de_c1 (dv 6) de_int))).cast (by rw [em])) rfl) ?_)
            refine d_one (d_put 2 [.num _, .num _] (u9 hr) rfl (dv 8) (de_sub (de_add (de_dget [.num ((j : Nat) : Int), .num (min a.2 b.2)] (u9 hr) (dv 2) (dv 8) (kvL_get hz)) (de_c1 (dv 6) de_int)) (de_c1 (dv 5) de_int)) rfl (by rw [kvL_len]; omega) ⟨_, _, _, _, rfl, ?_⟩)
            refine (kvL_put hz).trans (kvL_congr fun z hzz => ?_)
            by_cases e : z = (((j : Nat) : Int), min a.2 b.2)
            · subst e
              rw [if_pos rfl, if_neg (by simp), if_pos ⟨by show ((j : Nat) : Int) < ((j + 1 : Nat) : Int); omega, rfl⟩]
              omega
            · rw [if_neg e]
              have key : (z.1 < ((j : Nat) : Int) ∧ min a.2 b.2 = z.2) ↔ (z.1 < ((j + 1 : Nat) : Int) ∧ min a.2 b.2 = z.2) := by
                constructor
                · rintro ⟨q1, q2⟩; exact ⟨by omega, q2⟩
                · rintro ⟨q1, q2⟩
                  refine ⟨?_, q2⟩
                  rcases Int.lt_or_le z.1 (j : Nat) with q | q
                  · exact q
                  · exact absurd (Prod.ext (by show z.1 = ((j : Nat) : Int); omega) q2.symm) e
              by_cases q : z.1 < ((j : Nat) : Int) ∧ min a.2 b.2 = z.2
              · rw [if_pos q, if_pos (key.mp q)]
              · rw [if_neg q, if_neg (fun q' => q (key.mpr q'))]
          · rintro ε' ⟨_, s3, s7, s8, rfl, rfl⟩
            refine ⟨_, _, _, _, _, _, _, rfl, kvL_congr fun z hz => ?_⟩
            rw [wk1]
            congr 1
            unfold Tri.om
            have e1 : (((a.1.toNat : Nat)) : Int) = a.1 := by omega
            rw [e1]
            by_cases q : z.1 < a.1 ∧ min a.2 b.2 = z.2
            · rw [if_pos q, if_pos ⟨hc1, q.1, q.2⟩]
            · rw [if_neg q, if_neg (fun q' => q ⟨q'.2.1, q'.2.2⟩)]
        · refine d_nil ⟨_, _, _, _, _, _, _, rfl, kvL_congr fun z hz => ?_⟩
          rw [wk1]
          have : Tri.om a b z = 0 := by
            unfold Tri.om
            by_cases q : a.1 = b.1 ∧ z.1 < a.1 ∧ min a.2 b.2 = z.2
            · rw [if_pos q]
              have : a.2 = b.2 := by
                by_cases q2 : a.2 = b.2
                · exact q2
                · simp [q.1, q2] at hc
              omega
            · rw [if_neg q]
          omega
      · rintro ε' ⟨_, s3, s4, s5, s6, s7, s8, rfl, rfl⟩
        rw [cL_len, Int.toNat_natCast]
        exact d_one (d_retOD 2 rfl rfl)
def R_law_ends (ds : List Dt) (d : Dt) : Prop := ∃ kvs t, ∃ W H : Nat, ∃ c, Tab kvs t W H ∧ ds = [bD W H, .dic kvs, .int c] ∧ d = .lst (cL (endsF t W H c))
abbrev FD_law_ends (T : List (Addr × Str)) (P : Program) (w : World) (K : PySem.W.Frag) (mg : Str → Option Value) (base : Heap) : Prop := FnD T P w K mg base "_law_ends" 4 ["_law_board_here", "_law_table", "_law_cell_here"] R_law_ends
theorem f_law_ends (B : Bi mg) (h : Has K mg "_law_ends" "_law_ends" s_law_ends) (F_law_draws : FD_law_draws T P w K mg base) (F_law_line : FD_law_line T P w K mg base) : FD_law_ends T P w K mg base := by
  refine fnD_at (N := ["_law_board_here", "_law_table", "_law_cell_here", "_law_d", "_law_ends_here", "_law_line_here"]) h ⟨rfl, rfl, rfl, by decide +kernel, rfl, by decide +kernel, by decide +kernel⟩ ?_ ?_
  · intro kV doc pm an cdv ct us hl
    match us, hl with
    | [u0, u1, u2], _ => rfl
  · have nd : (["_law_board_here", "_law_table", "_law_cell_here", "_law_d", "_law_ends_here", "_law_line_here"] : List Str).Nodup := by decide +kernel
    rintro f cdv A outer s H E ds d hr hl ⟨kvs, t, W, Hh, c, tab, rfl, rfl⟩
    have w8 := tab.w8
    have h8 := tab.h8
    have zok : ∀ k, k < (szE W Hh).length → 0 < (szE W Hh).getD k 0 ∧ (szE W Hh).getD k 0 < 1000 := by
      intro k hk
      have hk : k < 8 := hk
      match k, hk with
      | 0, _ => show (0 : Int) < 12 ∧ (12 : Int) < 1000; omega
      | 1, _ => show (0 : Int) < 17 ∧ (17 : Int) < 1000; omega
      | 2, _ => show (0 : Int) < W + 1 ∧ ((W : Int) + 1) < 1000; omega
      | 3, _ => show (0 : Int) < Hh + 1 ∧ ((Hh : Int) + 1) < 1000; omega
      | 4, _ => show (0 : Int) < W + 1 ∧ ((W : Int) + 1) < 1000; omega
      | 5, _ => show (0 : Int) < Hh + 1 ∧ ((Hh : Int) + 1) < 1000; omega
      | 6, _ => show (0 : Int) < W + 1 ∧ ((W : Int) + 1) < 1000; omega
      | 7, _ => show (0 : Int) < Hh + 1 ∧ ((Hh : Int) + 1) < 1000; omega
    have erep : iL [12, 17] ++ (List.replicate ((3 : Int)).toNat [Dt.int ((W : Int) + 1), Dt.int ((Hh : Int) + 1)]).flatten = iL (szE W Hh) := rfl
    refine d_cons (d_set 3 nd (DG.lst (dn_call (ds' := iL (drawsF c (szE W Hh))) F_law_draws hr (da_cons (dv 2) (da_cons (dn_cat (dn_lst (da_cons de_int (da_cons de_int da_nil)) rfl).lstW (dn_rep (dn_lst (da_cons (de_add (de_c0 (dv 0) de_int) de_int) (da_cons (de_add (de_c1 (dv 0) de_int) de_int) da_nil)) rfl).lstW de_int (by omega) (Nat.le_of_ble_eq_true rfl) rfl).lstW (by rw [sizeLine_eq]; exact Nat.le_of_ble_eq_true rfl) (by exact imm_iL (szE W Hh))).lstW da_nil)) ⟨c, szE W Hh, Nat.le_of_ble_eq_true rfl, zok, rfl, rfl⟩ (imm_iL _))) ?_)
    have at_ : ∀ k, k < 8 → atI (iL (drawsF c (szE W Hh))) (k : Nat) = some (.int (drawF c (szE W Hh) k)) := fun k hk => draws_at (zs := szE W Hh) (k := k) hk
    have bd : ∀ k, k < 8 → 0 ≤ drawF c (szE W Hh) k ∧ drawF c (szE W Hh) k < (szE W Hh).getD k 0 := fun k hk => draw_bd (zok k hk).1
    have a0 := at_ 0 (by omega)
    have a1 := at_ 1 (by omega)
    have a2 := at_ 2 (by omega)
    have a3 := at_ 3 (by omega)
    have a4 := at_ 4 (by omega)
    have a5 := at_ 5 (by omega)
    have a6 := at_ 6 (by omega)
    have a7 := at_ 7 (by omega)
    have b1 : 0 ≤ drawF c (szE W Hh) 1 ∧ drawF c (szE W Hh) 1 < 17 := bd 1 (by omega)
    have b2 : 0 ≤ drawF c (szE W Hh) 2 ∧ drawF c (szE W Hh) 2 < (W : Int) + 1 := bd 2 (by omega)
    have b3 : 0 ≤ drawF c (szE W Hh) 3 ∧ drawF c (szE W Hh) 3 < (Hh : Int) + 1 := bd 3 (by omega)
    have b4 : 0 ≤ drawF c (szE W Hh) 4 ∧ drawF c (szE W Hh) 4 < (W : Int) + 1 := bd 4 (by omega)
    have b5 : 0 ≤ drawF c (szE W Hh) 5 ∧ drawF c (szE W Hh) 5 < (Hh : Int) + 1 := bd 5 (by omega)
    have ef : endsF t W Hh c = endsF t W Hh c := rfl
    conv at ef => rhs; unfold endsF
    clear at_ bd zok
    generalize drawsF c (szE W Hh) = dl at a0 a1 a2 a3 a4 a5 a6 a7 ⊢
    generalize drawF c (szE W Hh) = d at a0 a1 a2 a3 a4 a5 a6 a7 b1 b2 b3 b4 b5 ef
    simp only at ef
    let e0 : Co := (d 2, d 3)
    let e1 : Co := (d 4, d 5)
    let e2 : Co := (d 6, d 7)
    refine d_cons (d_setO 4 nd (dn_lst (ds := cL [e0, e1, e2]) (da_cons (de_cD (de_ixL (dv 3) de_int a2) (de_ixL (dv 3) de_int a3)) (da_cons (de_cD (de_ixL (dv 3) de_int a4) (de_ixL (dv 3) de_int a5)) (da_cons (de_cD (de_ixL (dv 3) de_int a6) (de_ixL (dv 3) de_int a7)) da_nil))) rfl) ?_)
    have x0 : atI (cL [e0, e1, e2]) 0 = some (cD e0) := rfl
    have x1 : atI (cL [e0, e1, e2]) 1 = some (cD e1) := rfl
    have x2 : atI (cL [e0, e1, e2]) 2 = some (cD e2) := rfl
    have o0 : Tri.onB (W : Nat) (Hh : Nat) e0 := by unfold Tri.onB; simp only [e0]; omega
    have o1 : Tri.onB (W : Nat) (Hh : Nat) e1 := by unfold Tri.onB; simp only [e1]; omega
    have ll : 0 < (Tri.ln t e0 e1).length := by rw [Tri.ln_len tab.full o0 o1]; omega
    by_cases hd : d 0 = 0
    · have q0 : decide (d 0 = 0) = true := by rw [hd]; decide
      have q1 : decide (d 0 = 1) = false := by rw [hd]; decide
      have q2 : decide (d 0 = 2) = false := by rw [hd]; decide
      have q3 : decide (d 0 = 3) = false := by rw [hd]; decide
      have q4 : decide (d 0 = 4) = false := by rw [hd]; decide
      have q5 : decide (d 0 = 5) = false := by rw [hd]; decide
      refine d_cons (d_ifT ((dt_cmp c_eqI (de_ixL (dv 3) de_int a0) de_int rfl).cast q0) (d_one (d_setO 4 nd (dn_lst (ds := cL [e0, e0, e2]) (da_cons (de_ixL (dv 4) de_int x0) (da_cons (de_ixL (dv 4) de_int x0) (da_cons (de_ixL (dv 4) de_int x2) da_nil))) rfl) ?_)))
      refine d_cons (d_ifF ((dt_cmp c_eqI (de_ixL (dv 3) de_int a0) de_int rfl).cast q1) (d_nil ?_))
      refine d_cons (d_ifF ((dt_cmp c_eqI (de_ixL (dv 3) de_int a0) de_int rfl).cast q2) (d_nil ?_))
      refine d_cons (d_ifF ((dt_cmp c_eqI (de_ixL (dv 3) de_int a0) de_int rfl).cast q3) (d_nil ?_))
      refine d_cons (d_ifF ((dw_or ((dt_cmp c_eqI (de_ixL (dv 3) de_int a0) de_int rfl).cast q4) fun _ => dw_or1 ((dt_cmp c_eqI (de_ixL (dv 3) de_int a0) de_int rfl).cast q5)).dt) (d_nil ?_))
      refine d_one (d_retO 4 rfl ?_)
      show Dt.lst _ = _
      rw [ef]
      rw [if_pos hd]
    have n0 : ¬ d 0 = 0 := hd
    clear hd
    by_cases hd : d 0 = 1
    · have q0 : decide (d 0 = 0) = false := by rw [hd]; decide
      have q1 : decide (d 0 = 1) = true := by rw [hd]; decide
      have q2 : decide (d 0 = 2) = false := by rw [hd]; decide
      have q3 : decide (d 0 = 3) = false := by rw [hd]; decide
      have q4 : decide (d 0 = 4) = false := by rw [hd]; decide
      have q5 : decide (d 0 = 5) = false := by rw [hd]; decide
      refine d_cons (d_ifF ((dt_cmp c_eqI (de_ixL (dv 3) de_int a0) de_int rfl).cast q0) (d_nil ?_))
      refine d_cons (d_ifT ((dt_cmp c_eqI (de_ixL (dv 3) de_int a0) de_int rfl).cast q1) (d_one (d_setO 4 nd (dn_lst (ds := cL [e0, e2, e2]) (da_cons (de_ixL (dv 4) de_int x0) (da_cons (de_ixL (dv 4) de_int x2) (da_cons (de_ixL (dv 4) de_int x2) da_nil))) rfl) ?_)))
      refine d_cons (d_ifF ((dt_cmp c_eqI (de_ixL (dv 3) de_int a0) de_int rfl).cast q2) (d_nil ?_))
      refine d_cons (d_ifF ((dt_cmp c_eqI (de_ixL (dv 3) de_int a0) de_int rfl).cast q3) (d_nil ?_))
      refine d_cons (d_ifF ((dw_or ((dt_cmp c_eqI (de_ixL (dv 3) de_int a0) de_int rfl).cast q4) fun _ => dw_or1 ((dt_cmp c_eqI (de_ixL (dv 3) de_int a0) de_int rfl).cast q5)).dt) (d_nil ?_))
      refine d_one (d_retO 4 rfl ?_)
      show Dt.lst _ = _
      rw [ef]
      rw [if_neg (by omega)]
      rw [if_pos hd]
    have n1 : ¬ d 0 = 1 := hd
    clear hd
    by_cases hd : d 0 = 2
    · have q0 : decide (d 0 = 0) = false := by rw [hd]; decide
      have q1 : decide (d 0 = 1) = false := by rw [hd]; decide
      have q2 : decide (d 0 = 2) = true := by rw [hd]; decide
      have q3 : decide (d 0 = 3) = false := by rw [hd]; decide
      have q4 : decide (d 0 = 4) = false := by rw [hd]; decide
      have q5 : decide (d 0 = 5) = false := by rw [hd]; decide
      refine d_cons (d_ifF ((dt_cmp c_eqI (de_ixL (dv 3) de_int a0) de_int rfl).cast q0) (d_nil ?_))
      refine d_cons (d_ifF ((dt_cmp c_eqI (de_ixL (dv 3) de_int a0) de_int rfl).cast q1) (d_nil ?_))
      refine d_cons (d_ifT ((dt_cmp c_eqI (de_ixL (dv 3) de_int a0) de_int rfl).cast q2) (d_one (d_setO 4 nd (dn_lst (ds := cL [e0, e0, e0]) (da_cons (de_ixL (dv 4) de_int x0) (da_cons (de_ixL (dv 4) de_int x0) (da_cons (de_ixL (dv 4) de_int x0) da_nil))) rfl) ?_)))
      refine d_cons (d_ifF ((dt_cmp c_eqI (de_ixL (dv 3) de_int a0) de_int rfl).cast q3) (d_nil ?_))
      refine d_cons (d_ifF ((dw_or ((dt_cmp c_eqI (de_ixL (dv 3) de_int a0) de_int rfl).cast q4) fun _ => dw_or1 ((dt_cmp c_eqI (de_ixL (dv 3) de_int a0) de_int rfl).cast q5)).dt) (d_nil ?_))
      refine d_one (d_retO 4 rfl ?_)
      show Dt.lst _ = _
      rw [ef]
      rw [if_neg (by omega)]
      rw [if_neg (by omega)]
      rw [if_pos hd]
    have n2 : ¬ d 0 = 2 := hd
    clear hd
    by_cases hd : d 0 = 3
    · have q0 : decide (d 0 = 0) = false := by rw [hd]; decide
      have q1 : decide (d 0 = 1) = false := by rw [hd]; decide
      have q2 : decide (d 0 = 2) = false := by rw [hd]; decide
      have q3 : decide (d 0 = 3) = true := by rw [hd]; decide
      have q4 : decide (d 0 = 4) = false := by rw [hd]; decide
      have q5 : decide (d 0 = 5) = false := by rw [hd]; decide
      refine d_cons (d_ifF ((dt_cmp c_eqI (de_ixL (dv 3) de_int a0) de_int rfl).cast q0) (d_nil ?_))
      refine d_cons (d_ifF ((dt_cmp c_eqI (de_ixL (dv 3) de_int a0) de_int rfl).cast q1) (d_nil ?_))
      refine d_cons (d_ifF ((dt_cmp c_eqI (de_ixL (dv 3) de_int a0) de_int rfl).cast q2) (d_nil ?_))
      refine d_cons (d_ifT ((dt_cmp c_eqI (de_ixL (dv 3) de_int a0) de_int rfl).cast q3) (d_cons (d_set 5 nd (DG.lst (dn_call (ds' := cL (Tri.ln t e0 e1)) F_law_line hr (da_cons (dv 1) (da_cons (de_ixL (dv 4) de_int x0) (da_cons (de_ixL (dv 4) de_int x1) da_nil))) ⟨kvs, t, W, Hh, e0, e1, tab, o0, o1, rfl, rfl⟩ (imm_cL _))) (d_one (d_setO 4 nd (dn_lst (ds := cL [e0, e1, gC (Tri.ln t e0 e1) (d 1 % ((Tri.ln t e0 e1).length : Nat)).toNat]) (da_cons (de_ixL (dv 4) de_int x0) (da_cons (de_ixL (dv 4) de_int x1) (da_cons (de_ixL (i := d 1 % ((Tri.ln t e0 e1).length : Nat)) (dv 5) ((de_mod (de_intOf B.int (de_ixL (dv 3) de_int a1)) (de_lenL B.len (dv 5)) (by rw [cL_len]; omega)).cast (by rw [cL_len])) (mod_at (Int.emod_nonneg _ (by omega)) (Int.emod_lt_of_pos _ (by omega)))) da_nil))) rfl) ?_)))))
      refine d_cons (d_ifF ((dw_or ((dt_cmp c_eqI (de_ixL (dv 3) de_int a0) de_int rfl).cast q4) fun _ => dw_or1 ((dt_cmp c_eqI (de_ixL (dv 3) de_int a0) de_int rfl).cast q5)).dt) (d_nil ?_))
      refine d_one (d_retO 4 rfl ?_)
      show Dt.lst _ = _
      rw [ef]
      rw [if_neg (by omega)]
      rw [if_neg (by omega)]
      rw [if_neg (by omega)]
      rw [if_pos hd]
    have n3 : ¬ d 0 = 3 := hd
    clear hd
    by_cases hd : d 0 = 4
    · have q0 : decide (d 0 = 0) = false := by rw [hd]; decide
      have q1 : decide (d 0 = 1) = false := by rw [hd]; decide
      have q2 : decide (d 0 = 2) = false := by rw [hd]; decide
      have q3 : decide (d 0 = 3) = false := by rw [hd]; decide
      have q4 : decide (d 0 = 4) = true := by rw [hd]; decide
      have q5 : decide (d 0 = 5) = false := by rw [hd]; decide
      refine d_cons (d_ifF ((dt_cmp c_eqI (de_ixL (dv 3) de_int a0) de_int rfl).cast q0) (d_nil ?_))
      refine d_cons (d_ifF ((dt_cmp c_eqI (de_ixL (dv 3) de_int a0) de_int rfl).cast q1) (d_nil ?_))
      refine d_cons (d_ifF ((dt_cmp c_eqI (de_ixL (dv 3) de_int a0) de_int rfl).cast q2) (d_nil ?_))
      refine d_cons (d_ifF ((dt_cmp c_eqI (de_ixL (dv 3) de_int a0) de_int rfl).cast q3) (d_nil ?_))
      refine d_cons (d_ifT ((dw_or ((dt_cmp c_eqI (de_ixL (dv 3) de_int a0) de_int rfl).cast q4) fun _ => dw_or1 ((dt_cmp c_eqI (de_ixL (dv 3) de_int a0) de_int rfl).cast q5)).dt) (d_one (d_setO 4 nd (dn_lst (ds := cL [(0, d 3), ((W : Int), d 5), (d 6, (Hh : Int) * (d 1 % 2))]) (da_cons (de_cD de_int (de_ixL (dv 3) de_int a3)) (da_cons (de_cD ((de_c0 (dv 0) de_int).cast (d1 := .int (W : Int)) rfl) (de_ixL (dv 3) de_int a5)) (da_cons (de_cD (de_ixL (dv 3) de_int a6) (de_mul ((de_c1 (dv 0) de_int).cast (d1 := .int (Hh : Int)) rfl) (de_mod (de_intOf B.int (de_ixL (dv 3) de_int a1)) de_int (by omega)) (.inl (by omega)))) da_nil))) rfl) ?_)))
      refine d_one (d_retO 4 rfl ?_)
      show Dt.lst _ = _
      rw [ef]
      rw [if_neg (by omega)]
      rw [if_neg (by omega)]
      rw [if_neg (by omega)]
      rw [if_neg (by omega)]
      rw [if_pos (by omega)]
    have n4 : ¬ d 0 = 4 := hd
    clear hd
    by_cases hd : d 0 = 5
    · have q0 : decide (d 0 = 0) = false := by rw [hd]; decide
      have q1 : decide (d 0 = 1) = false := by rw [hd]; decide
      have q2 : decide (d 0 = 2) = false := by rw [hd]; decide
      have q3 : decide (d 0 = 3) = false := by rw [hd]; decide
      have q4 : decide (d 0 = 4) = false := by rw [hd]; decide
      have q5 : decide (d 0 = 5) = true := by rw [hd]; decide
      refine d_cons (d_ifF ((dt_cmp c_eqI (de_ixL (dv 3) de_int a0) de_int rfl).cast q0) (d_nil ?_))
      refine d_cons (d_ifF ((dt_cmp c_eqI (de_ixL (dv 3) de_int a0) de_int rfl).cast q1) (d_nil ?_))
      refine d_cons (d_ifF ((dt_cmp c_eqI (de_ixL (dv 3) de_int a0) de_int rfl).cast q2) (d_nil ?_))
      refine d_cons (d_ifF ((dt_cmp c_eqI (de_ixL (dv 3) de_int a0) de_int rfl).cast q3) (d_nil ?_))
      refine d_cons (d_ifT ((dw_or ((dt_cmp c_eqI (de_ixL (dv 3) de_int a0) de_int rfl).cast q4) fun _ => dw_or1 ((dt_cmp c_eqI (de_ixL (dv 3) de_int a0) de_int rfl).cast q5)).dt) (d_one (d_setO 4 nd (dn_lst (ds := cL [(0, d 3), ((W : Int), d 5), (d 6, (Hh : Int) * (d 1 % 2))]) (da_cons (de_cD de_int (de_ixL (dv 3) de_int a3)) (da_cons (de_cD ((de_c0 (dv 0) de_int).cast (d1 := .int (W : Int)) rfl) (de_ixL (dv 3) de_int a5)) (da_cons (de_cD (de_ixL (dv 3) de_int a6) (de_mul ((de_c1 (dv 0) de_int).cast (d1 := .int (Hh : Int)) rfl) (de_mod (de_intOf B.int (de_ixL (dv 3) de_int a1)) de_int (by omega)) (.inl (by omega)))) da_nil))) rfl) ?_)))
      refine d_one (d_retO 4 rfl ?_)
      show Dt.lst _ = _
      rw [ef]
      rw [if_neg (by omega)]
      rw [if_neg (by omega)]
      rw [if_neg (by omega)]
      rw [if_neg (by omega)]
      rw [if_pos (by omega)]
    have n5 : ¬ d 0 = 5 := hd
    clear hd
    have q0 : decide (d 0 = 0) = false := decide_eq_false n0
    have q1 : decide (d 0 = 1) = false := decide_eq_false n1
    have q2 : decide (d 0 = 2) = false := decide_eq_false n2
    have q3 : decide (d 0 = 3) = false := decide_eq_false n3
    have q4 : decide (d 0 = 4) = false := decide_eq_false n4
    have q5 : decide (d 0 = 5) = false := decide_eq_false n5
    refine d_cons (d_ifF ((dt_cmp c_eqI (de_ixL (dv 3) de_int a0) de_int rfl).cast q0) (d_nil ?_))
    refine d_cons (d_ifF ((dt_cmp c_eqI (de_ixL (dv 3) de_int a0) de_int rfl).cast q1) (d_nil ?_))
    refine d_cons (d_ifF ((dt_cmp c_eqI (de_ixL (dv 3) de_int a0) de_int rfl).cast q2) (d_nil ?_))
    refine d_cons (d_ifF ((dt_cmp c_eqI (de_ixL (dv 3) de_int a0) de_int rfl).cast q3) (d_nil ?_))
    refine d_cons (d_ifF ((dw_or ((dt_cmp c_eqI (de_ixL (dv 3) de_int a0) de_int rfl).cast q4) fun _ => dw_or1 ((dt_cmp c_eqI (de_ixL (dv 3) de_int a0) de_int rfl).cast q5)).dt) (d_nil ?_))
    refine d_one (d_retO 4 rfl ?_)
    show Dt.lst _ = _
    rw [ef]
    rw [if_neg n0]
    rw [if_neg n1]
    rw [if_neg n2]
    rw [if_neg n3]
    rw [if_neg (by omega)]
end
end Cp
end
section
set_option maxHeartbeats 4000000
namespace Cp
open PySem PySem.Spec PyProof.Rows L2

open PySem.W
/-! ### nested loops -/
def flat {α : Type} (g : Nat → List α) (n : Nat) : List α := ((List.range n).map g).flatten
theorem flat_zero {α : Type} (g : Nat → List α) : flat g 0 = [] := rfl
theorem flat_succ {α : Type} (g : Nat → List α) (n : Nat) : flat g (n + 1) = flat g n ++ g n := by
  unfold flat
  rw [List.range_succ, List.map_append, List.flatten_append]; simp
theorem flat_mem {α : Type} {g : Nat → List α} {n : Nat} {a : α} : a ∈ flat g n ↔ ∃ i, i < n ∧ a ∈ g i := by
  unfold flat
  rw [List.mem_flatten]
  constructor
  · rintro ⟨l, hl, ha⟩
    obtain ⟨i, hi, rfl⟩ := List.mem_map.mp hl
    exact ⟨i, List.mem_range.mp hi, ha⟩
  · rintro ⟨i, hi, ha⟩
    exact ⟨g i, List.mem_map.mpr ⟨i, List.mem_range.mpr hi, rfl⟩, ha⟩
theorem flat_nodup {α : Type} {g : Nat → List α} (h1 : ∀ i, (g i).Nodup) (h2 : ∀ i j a, a ∈ g i → a ∈ g j → i = j) : ∀ n, (flat g n).Nodup
  | 0 => List.nodup_nil
  | n + 1 => by
    rw [flat_succ, List.nodup_append]
    refine ⟨flat_nodup h1 h2 n, h1 n, fun a ha b hb e => ?_⟩
    subst e
    obtain ⟨i, hi, q⟩ := flat_mem.mp ha
    have := h2 i n a q hb
    omega
theorem flat_len {α : Type} {g : Nat → List α} {B : Nat} (h : ∀ i, (g i).length ≤ B) : ∀ n, (flat g n).length ≤ n * B
  | 0 => by simp [flat]
  | n + 1 => by
    rw [flat_succ, List.length_append, Nat.succ_mul]
    have := flat_len h n
    have := h n
    omega
theorem flat_map {α β : Type} {g : Nat → List α} {f : α → β} (n : Nat) : (flat g n).map f = flat (fun i => (g i).map f) n := by
  unfold flat
  rw [List.map_flatten, List.map_map]; rfl
theorem flat_congr {α : Type} {g g' : Nat → List α} {n : Nat} (h : ∀ i, i < n → g i = g' i) : flat g n = flat g' n := by
  unfold flat
  congr 1
  exact List.map_congr_left fun i hi => h i (List.mem_range.mp hi)
def LV (f : Nat → Nat → Bool) (x y : Nat) (u : Int) (j : Nat) : List (Co × Co) := ((List.range j).filter (f y)).map fun v => ((((x : Nat) : Int), ((y : Nat) : Int)), (u, ((v : Nat) : Int)))
def LU (f : Nat → Nat → Bool) (H x y i : Nat) : List (Co × Co) := flat (fun k => LV f x y (((x : Nat) : Int) + 1 + ((k : Nat) : Int)) (H + 1)) i
def LY (f : Nat → Nat → Bool) (W H x j : Nat) : List (Co × Co) := flat (fun y => LU f H x y (W - x)) j
def LX (f : Nat → Nat → Bool) (W H i : Nat) : List (Co × Co) := flat (fun x => LY f W H x (H + 1)) i
def prs (f : Nat → Nat → Bool) (W H : Nat) : List (Co × Co) := LX f W H (W + 1)
def fNe (y v : Nat) : Bool := !decide (((v : Nat) : Int) = ((y : Nat) : Int))
def fUp (y v : Nat) : Bool := decide (((y : Nat) : Int) < ((v : Nat) : Int))
def fDn (y v : Nat) : Bool := decide (((v : Nat) : Int) < ((y : Nat) : Int))
theorem LV_succ (f : Nat → Nat → Bool) (x y : Nat) (u : Int) (j : Nat) : LV f x y u (j + 1) = LV f x y u j ++ (if f y j = true then [((((x : Nat) : Int), ((y : Nat) : Int)), (u, ((j : Nat) : Int)))] else []) := by
  unfold LV
  rw [List.range_succ, List.filter_append, List.map_append]
  by_cases h : f y j = true
  · rw [if_pos h]; simp [h]
  · rw [if_neg h]; simp [h]
theorem LV_mem {f : Nat → Nat → Bool} {x y : Nat} {u : Int} {j : Nat} {p q : Co} : (p, q) ∈ LV f x y u j ↔ ∃ v, v < j ∧ f y v = true ∧ p = (((x : Nat) : Int), ((y : Nat) : Int)) ∧ q = (u, ((v : Nat) : Int)) := by
  unfold LV
  rw [List.mem_map]
  constructor
  · rintro ⟨v, hv, e⟩
    rw [List.mem_filter, List.mem_range] at hv
    obtain ⟨e1, e2⟩ := Prod.ext_iff.mp e
    exact ⟨v, hv.1, hv.2, e1.symm, e2.symm⟩
  · rintro ⟨v, h1, h2, rfl, rfl⟩
    exact ⟨v, List.mem_filter.mpr ⟨List.mem_range.mpr h1, h2⟩, rfl⟩
theorem LU_mem {f : Nat → Nat → Bool} {H x y i : Nat} {p q : Co} : (p, q) ∈ LU f H x y i ↔ ∃ k v, k < i ∧ v < H + 1 ∧ f y v = true ∧ p = (((x : Nat) : Int), ((y : Nat) : Int)) ∧ q = (((x : Nat) : Int) + 1 + ((k : Nat) : Int), ((v : Nat) : Int)) := by
  unfold LU
  rw [flat_mem]
  constructor
  · rintro ⟨k, hk, h⟩
    obtain ⟨v, h1, h2, h3, h4⟩ := LV_mem.mp h
    exact ⟨k, v, hk, h1, h2, h3, h4⟩
  · rintro ⟨k, v, hk, h1, h2, h3, h4⟩
    exact ⟨k, hk, LV_mem.mpr ⟨v, h1, h2, h3, h4⟩⟩
theorem prs_mem {f : Nat → Nat → Bool} {W H : Nat} {p q : Co} : (p, q) ∈ prs f W H ↔ Tri.onB (W : Nat) (H : Nat) p ∧ Tri.onB (W : Nat) (H : Nat) q ∧ p.1 < q.1 ∧ f p.2.toNat q.2.toNat = true := by
  unfold prs LX LY
  rw [flat_mem]
  unfold Tri.onB
  constructor
  · rintro ⟨x, hx, h⟩
    obtain ⟨y, hy, h⟩ := flat_mem.mp h
    obtain ⟨k, v, hk, hv, hf, rfl, rfl⟩ := LU_mem.mp h
    simp only [Int.toNat_natCast]
    refine ⟨by omega, by omega, by omega, hf⟩
  · rintro ⟨h1, h2, h3, h4⟩
    refine ⟨p.1.toNat, by omega, flat_mem.mpr ⟨p.2.toNat, by omega, LU_mem.mpr ⟨(q.1 - p.1 - 1).toNat, q.2.toNat, by omega, by omega, h4, ?_, ?_⟩⟩⟩
    · apply Prod.ext <;> simp only <;> omega
    · apply Prod.ext <;> simp only <;> omega
theorem prs_nodup (f : Nat → Nat → Bool) (W H : Nat) : (prs f W H).Nodup := by
  refine flat_nodup (fun x => flat_nodup (fun y => flat_nodup (fun k => ?_) ?_ _) ?_ _) ?_ _
  · unfold LV
    refine List.Pairwise.map _ (fun a b h e => h ?_) (List.Pairwise.filter _ List.nodup_range)
    have := (Prod.ext_iff.mp (Prod.ext_iff.mp e).2).2
    simp only at this
    omega
  · rintro i j ⟨p, q⟩ h1 h2
    obtain ⟨v, _, _, _, e1⟩ := LV_mem.mp h1
    obtain ⟨v', _, _, _, e2⟩ := LV_mem.mp h2
    have := (Prod.ext_iff.mp (e1.symm.trans e2)).1
    simp only at this
    omega
  · rintro i j ⟨p, q⟩ h1 h2
    obtain ⟨_, _, _, _, _, e1, _⟩ := LU_mem.mp h1
    obtain ⟨_, _, _, _, _, e2, _⟩ := LU_mem.mp h2
    have := (Prod.ext_iff.mp (e1.symm.trans e2)).2
    simp only at this
    omega
  · rintro i j ⟨p, q⟩ h1 h2
    obtain ⟨_, _, h1⟩ := flat_mem.mp h1
    obtain ⟨_, _, h2⟩ := flat_mem.mp h2
    obtain ⟨_, _, _, _, _, e1, _⟩ := LU_mem.mp h1
    obtain ⟨_, _, _, _, _, e2, _⟩ := LU_mem.mp h2
    have := (Prod.ext_iff.mp (e1.symm.trans e2)).1
    simp only at this
    omega
theorem LV_len (f : Nat → Nat → Bool) (x y : Nat) (u : Int) (j : Nat) : (LV f x y u j).length ≤ j := by
  unfold LV
  rw [List.length_map]
  exact Nat.le_trans (List.length_filter_le _ _) (by rw [List.length_range]; exact Nat.le_refl _)
theorem LU_len (f : Nat → Nat → Bool) {H : Nat} (h8 : H ≤ 8) (x y i : Nat) : (LU f H x y i).length ≤ i * 9 := flat_len (fun k => Nat.le_trans (LV_len ..) (by omega)) i
theorem LY_len (f : Nat → Nat → Bool) {W H : Nat} (w8 : W ≤ 8) (h8 : H ≤ 8) (x j : Nat) : (LY f W H x j).length ≤ j * 72 := flat_len (fun y => Nat.le_trans (LU_len f h8 ..) (by omega)) j
theorem LX_len (f : Nat → Nat → Bool) {W H : Nat} (w8 : W ≤ 8) (h8 : H ≤ 8) (i : Nat) : (LX f W H i).length ≤ i * 648 := flat_len (fun x => Nat.le_trans (LY_len f w8 h8 ..) (by omega)) i
theorem prs_len (f : Nat → Nat → Bool) {W H : Nat} (w8 : W ≤ 8) (h8 : H ≤ 8) : (prs f W H).length ≤ 5832 := Nat.le_trans (LX_len f w8 h8 _) (by omega)

/-! ### the pairs in the order of the fill -/
def trD (pq : Co × Co) : Dt := .tup [.int (Tri.dist pq.1 pq.2 : Nat), cD pq.1, cD pq.2]
def leP (a b : Co × Co) : Bool := dle (trD a) (trD b)
def sortP (W H : Nat) : List (Co × Co) := (prs fNe W H).mergeSort leP
theorem leP_dist {a b : Co × Co} (h : leP a b = true) : Tri.dist a.1 a.2 ≤ Tri.dist b.1 b.2 := by
  unfold leP dle at h
  have h : (!dataLt (py (trD b)) (py (trD a))) = true := h
  rw [Bool.not_eq_true'] at h
  have e : dataLt (py (trD b)) (py (trD a)) = if PyData.eqv (.int (Tri.dist b.1 b.2 : Nat)) (.int (Tri.dist a.1 a.2 : Nat)) = true then _ else dataLt (.int (Tri.dist b.1 b.2 : Nat)) (.int (Tri.dist a.1 a.2 : Nat)) := (dataLt_tuple _ _).trans (dataLt_cons rfl _ _)
  rw [e] at h
  rcases Nat.lt_or_ge (Tri.dist b.1 b.2) (Tri.dist a.1 a.2) with g | g
  · rw [if_neg (by show ¬ ((((Tri.dist b.1 b.2 : Nat) : Int) == ((Tri.dist a.1 a.2 : Nat) : Int)) = true); rw [beq_iff_eq]; omega), dataLt_int, decide_eq_false_iff_not] at h
    omega
  · exact g
theorem sortP_ord (W H : Nat) : (sortP W H).Pairwise fun a b => Tri.dist a.1 a.2 ≤ Tri.dist b.1 b.2 := by
  have T := sortLe_total (listOrd itemOrd) false (fun b : Dt => keyToks (py b))
  have := List.pairwise_mergeSort (le := leP) (fun a b c h1 h2 => T.trans _ _ _ h1 h2) (fun a b => by rw [Bool.or_eq_true]; exact T.total (trD a) (trD b)) (prs fNe W H)
  exact this.imp leP_dist
theorem sortP_perm (W H : Nat) : (sortP W H).Perm (prs fNe W H) := List.mergeSort_perm _ _
theorem sortP_srt (W H : Nat) : Tri.Srt (sortP W H) W H where
  mem := fun p q => by
    rw [(sortP_perm W H).mem_iff, prs_mem]
    unfold Tri.onB fNe
    simp only [Bool.not_eq_true', decide_eq_false_iff_not]
    constructor
    · rintro ⟨h1, h2, h3, h4⟩; exact ⟨h1, h2, h3, by omega⟩
    · rintro ⟨h1, h2, h3, h4⟩; exact ⟨h1, h2, h3, by omega⟩
  ord := sortP_ord W H
  nd := (sortP_perm W H).nodup_iff.mpr (prs_nodup ..)
theorem sortP_len {W H : Nat} (w8 : W ≤ 8) (h8 : H ≤ 8) : (sortP W H).length ≤ 5832 := by rw [(sortP_perm W H).length_eq]; exact prs_len _ w8 h8
theorem trD_sort (W H : Nat) : ((prs fNe W H).map trD).mergeSort dle = (sortP W H).map trD := (List.map_mergeSort (r := leP) (s := dle) (f := trD) fun a _ b _ => rfl).symm
theorem imm_trD (a : Co × Co) : (trD a).imm = true := rfl
theorem trD_ok (l : List (Co × Co)) (h : l.length ≤ 100000) : SortOk (l.map trD) where
  pl := plAll_map (fun _ => rfl) l
  al := by
    rw [List.map_map]
    exact AllAlike.of (enc := fun p => py (trD p)) fun a b => by
      show alike (.tuple [.int _, .tuple [.int _, .int _], .tuple [.int _, .int _]]) (.tuple [.int _, .tuple [.int _, .int _], .tuple [.int _, .int _]]) = true
      simp [alike, alikeAll]
  st := by
    rw [List.map_map]
    exact Sortable.tuples (enc := fun p => py (trD p)) fun a => ⟨_, _, rfl⟩
  dp := fun d hd => by
    obtain ⟨a, _, rfl⟩ := List.mem_map.mp hd
    show 2 ≤ 20; omega
  len := by rw [List.length_map]; exact h

/-! ### dicts of pairs -/
theorem pK_inj {a b c d : Co} (h : pK a b = pK c d) : a = c ∧ b = d := by
  unfold pK at h
  injection h with h
  injection h with h1 h2
  injection h2 with h2 _
  exact ⟨cK_inj h1, cK_inj h2⟩
def kvT (l : List (Co × Co)) (t : Co → Co → Tri.L) : List (NK × Dt) := l.map fun z => (pK z.1 z.2, .str (lS (t z.1 z.2)))
theorem kvT_get {l : List (Co × Co)} {t : Co → Co → Tri.L} {p q : Co} (h : (p, q) ∈ l) : getD (kvT l t) (pK p q) = some (.str (lS (t p q))) := by
  unfold getD kvT
  induction l with
  | nil => cases h
  | cons a g ih =>
    rw [List.map_cons]
    by_cases e : a = (p, q)
    · subst e; simp [List.find?_cons]
    · have : ¬ pK a.1 a.2 = pK p q := fun z => e (Prod.ext (pK_inj z).1 (pK_inj z).2)
      rw [List.find?_cons, decide_eq_false this]
      exact ih ((List.mem_cons.mp h).resolve_left (fun z => e z.symm))
theorem kvT_none {l : List (Co × Co)} {t : Co → Co → Tri.L} {p q : Co} (h : (p, q) ∉ l) : getD (kvT l t) (pK p q) = none := by
  unfold getD kvT
  induction l with
  | nil => rfl
  | cons a g ih =>
    rw [List.mem_cons, not_or] at h
    rw [List.map_cons, List.find?_cons, decide_eq_false (fun z => h.1 (Prod.ext (pK_inj z).1 (pK_inj z).2).symm)]
    exact ih h.2
theorem kvT_new {l : List (Co × Co)} {t t' : Co → Co → Tri.L} {p q : Co} {d : Tri.L} (h : (p, q) ∉ l) (hd : d = t' p q) (ht : ∀ z ∈ l, t z.1 z.2 = t' z.1 z.2) : putD (kvT l t) (pK p q) (.str (lS d)) = kvT (l ++ [(p, q)]) t' := by
  unfold putD
  rw [kvT_none h, if_neg (by decide), hd]
  unfold kvT
  rw [List.map_append, List.map_congr_left fun z hz => by rw [ht z hz]]; rfl
theorem kvT_len (l : List (Co × Co)) (t : Co → Co → Tri.L) : (kvT l t).length = l.length := by unfold kvT; simp
theorem nd_take {α : Type} [DecidableEq α] {l : List α} (n : l.Nodup) {i : Nat} {a : α} (e : l[i]? = some a) : a ∉ l.take i := by
  intro hm
  obtain ⟨j, hj, ej⟩ := List.mem_iff_getElem.mp hm
  rw [List.length_take] at hj
  rw [List.getElem_take] at ej
  have hi := List.getElem?_eq_some_iff.mp e
  have := (List.getElem_inj n).mp (ej.trans hi.2.symm)
  omega
theorem kvT_tab {t : Co → Co → Tri.L} {W H : Nat} (f : Tri.Full t W H) (w8 : W ≤ 8) (h8 : H ≤ 8) : Tab (kvT (sortP W H) t) t W H :=
  ⟨fun p q a1 a2 a3 a4 => kvT_get ((sortP_srt W H).mem p q |>.mpr ⟨a1, a2, a3, a4⟩), f, w8, h8⟩

/-! ### texts of letters -/
def chr (l : Tri.L) : Nat := match l with
  | .E => 69
  | .N => 78
  | .S => 83
def lets (l : List Tri.L) : Str := ⟨(l.map chr).toArray⟩
theorem lS_chr (x : Tri.L) : lS x = ⟨#[chr x]⟩ := by cases x <;> rfl
theorem lets_snoc (l : List Tri.L) (x : Tri.L) : lets l ++ lS x = lets (l ++ [x]) := by
  rw [lS_chr]
  show (⟨(l.map chr).toArray ++ #[chr x]⟩ : Str) = _
  unfold lets
  congr 1
  simp
theorem lets_size (l : List Tri.L) : (lets l).cps.size = l.length := by unfold lets; simp
theorem lets_at (l : List Tri.L) {i : Nat} (h : i < l.length) : (⟨#[(lets l).cps.getD i 0]⟩ : Str) = lS (l.getD i .E) := by
  rw [lS_chr]
  unfold lets
  congr 2
  simp [h]
end Cp
end
section
set_option maxHeartbeats 4000000
namespace Cp
open PySem PySem.Spec PyProof.Rows L2

open PySem.W
theorem atI3 {a b c : Dt} : atI [a, b, c] 1 = some b ∧ atI [a, b, c] 2 = some c ∧ atI [a, b, c] 0 = some a := ⟨rfl, rfl, rfl⟩
theorem de_asC {T : List (Addr × Str)} {X : Cx} {ε : List Sl} {a b c : Expr} : True := trivial
theorem atI_m2 {l : List Co} (h : 2 ≤ l.length) : atI (cL l) (-2) = some (cD (Tri.sl l)) := by
  have e : (-(l.length : Int)) ≤ -2 := by omega
  unfold atI ixN
  rw [cL_len, if_neg (by decide), if_pos e]
  have e2 : ((-2 : Int) + (l.length : Int)).toNat = l.length - 2 := by omega
  show (cL l)[((-2 : Int) + (l.length : Int)).toNat]? = _
  rw [e2]
  unfold cL Tri.sl
  rw [List.getElem?_map, List.getElem?_eq_getElem (by omega), List.getD_eq_getElem?_getD, List.getElem?_eq_getElem (by omega)]; rfl
def stepsD (p q : Co) : Dt := .int (Tri.dist p q : Nat)
section
variable {T : List (Addr × Str)} {P : Program} {w : World} {K : PySem.W.Frag} {mg : Str → Option Value} {base : Heap}
def R_law_pairs (ds : List Dt) (d : Dt) : Prop := ∃ W H : Nat, W ≤ 8 ∧ H ≤ 8 ∧ ds = [bD W H] ∧ d = .lst ((sortP W H).map trD)
abbrev FD_law_pairs (T : List (Addr × Str)) (P : Program) (w : World) (K : PySem.W.Frag) (mg : Str → Option Value) (base : Heap) : Prop := FnD T P w K mg base "_law_pairs" 1 ["_law_board_here"] R_law_pairs
theorem f_law_pairs (B : Bi mg) (h : Has K mg "_law_pairs" "_law_pairs" s_law_pairs) : FD_law_pairs T P w K mg base := by
  refine fnD_at (N := ["_law_board_here", "_law_found", "_law_x", "_law_y", "_law_u", "_law_v"]) h ⟨rfl, rfl, rfl, by decide +kernel, rfl, by decide +kernel, by decide +kernel⟩ ?_ ?_
  · intro kV doc pm an cdv ct us hl
    match us, hl with
    | [u0], _ => rfl
  · have nd : (["_law_board_here", "_law_found", "_law_x", "_law_y", "_law_u", "_law_v"] : List Str).Nodup := by decide +kernel
    rintro f cdv A outer s H E ds d hr hl ⟨W, Hh, w8, h8, rfl, rfl⟩
    have ew : (((W : Nat) : Int) + 1).toNat = W + 1 := by omega
    have eh : (((Hh : Nat) : Int) + 1).toNat = Hh + 1 := by omega
    refine d_cons (d_setO 1 nd (dn_lst da_nil rfl) ?_)
    refine d_cons (d_for (di_range1 B.range (de_add ((de_c0 (dv 0) de_int).cast (d1 := .int (W : Int)) rfl) de_int) (by omega)) (fun i hi => tg_name 2 nd) (fun i ε => ∃ xs s2 s3 s4 s5, ε = [.val (bD W Hh), .ol xs, s2, s3, s4, s5] ∧ xs = (LX fNe W Hh i).map trD) ⟨_, _, _, _, _, rfl, rfl⟩ ?_ ?_)
    · rintro x ε' hx ⟨_, s2, s3, s4, s5, rfl, rfl⟩
      rw [ew] at hx
      refine d_one (d_for (di_range1 B.range (de_add ((de_c1 (dv 0) de_int).cast (d1 := .int (Hh : Int)) rfl) de_int) (by omega)) (fun i hi => tg_name 3 nd) (fun j ε => ∃ xs s3 s4 s5, ε = [.val (bD W Hh), .ol xs, .val (.int (x : Nat)), s3, s4, s5] ∧ xs = (LX fNe W Hh x ++ LY fNe W Hh x j).map trD) ⟨_, _, _, _, rfl, by simp [LY, flat_zero]⟩ ?_ ?_)
      · rintro y ε' hy ⟨_, s3, s4, s5, rfl, rfl⟩
        rw [eh] at hy
        refine d_one (d_for (di_range2 B.range (de_add (dv 2) de_int) (de_add ((de_c0 (dv 0) de_int).cast (d1 := .int (W : Int)) rfl) de_int) (by omega)) (fun i hi => tg_name 4 nd) (fun k ε => ∃ xs s4 s5, ε = [.val (bD W Hh), .ol xs, .val (.int (x : Nat)), .val (.int (y : Nat)), s4, s5] ∧ xs = (LX fNe W Hh x ++ LY fNe W Hh x y ++ LU fNe Hh x y k).map trD) ⟨_, _, _, rfl, by simp [LU, flat_zero]⟩ ?_ ?_)
        · rintro k ε' hk ⟨_, s4, s5, rfl, rfl⟩
          refine d_one (d_for (di_range1 B.range (de_add ((de_c1 (dv 0) de_int).cast (d1 := .int (Hh : Int)) rfl) de_int) (by omega)) (fun i hi => tg_name 5 nd) (fun v ε => ∃ xs s5, ε = [.val (bD W Hh), .ol xs, .val (.int (x : Nat)), .val (.int (y : Nat)), .val (.int (((x : Nat) : Int) + 1 + ((k : Nat) : Int))), s5] ∧ xs = (LX fNe W Hh x ++ LY fNe W Hh x y ++ LU fNe Hh x y k ++ LV fNe x y (((x : Nat) : Int) + 1 + ((k : Nat) : Int)) v).map trD) ⟨_, _, rfl, by simp [LV]⟩ ?_ ?_)
          · rintro v ε' hv ⟨_, s5, rfl, rfl⟩
            rw [eh] at hv
            have es := LV_succ fNe x y (((x : Nat) : Int) + 1 + ((k : Nat) : Int)) v
            refine d_one (d_if (bc := fNe y v) ((dt_cmp c_neI (dv 5) (dv 3) rfl)) (fun hb => ?_) (fun hb => d_nil ?_))
            · rw [if_pos hb] at es
              have ed : ((((x : Nat) : Int) + 1 + ((k : Nat) : Int)) - ((x : Nat) : Int) + (if ((v : Nat) : Int) - ((y : Nat) : Int) < 0 then -(((v : Nat) : Int) - ((y : Nat) : Int)) else ((v : Nat) : Int) - ((y : Nat) : Int))) = ((Tri.dist (((x : Nat) : Int), ((y : Nat) : Int)) (((x : Nat) : Int) + 1 + ((k : Nat) : Int), ((v : Nat) : Int)) : Nat) : Int) := by
                unfold Tri.dist
                simp only
                split <;> omega
              refine d_one (d_app 1 rfl (de_tup (da_cons ((de_add (de_sub (dv 4) (dv 2)) (de_abs B.abs (de_sub (dv 5) (dv 3)))).cast (by rw [ed])) (da_cons (de_cD (dv 2) (dv 3)) (da_cons (de_cD (dv 4) (dv 5)) da_nil)))) rfl ?_ ⟨_, _, rfl, ?_⟩)
              · rw [List.length_map, List.length_append, List.length_append, List.length_append]
                have l1 := LX_len fNe w8 h8 x
                have l2 := LY_len fNe w8 h8 x y
                have l3 := LU_len fNe h8 x y k
                have l4 := LV_len fNe x y (((x : Nat) : Int) + 1 + ((k : Nat) : Int)) v
                have hk : k < ((W : Int) + 1 - (((x : Nat) : Int) + 1)).toNat := hk
                omega
              · rw [es, ← List.append_assoc]
                exact (List.map_append (f := trD) (l₂ := [((((x : Nat) : Int), ((y : Nat) : Int)), ((((x : Nat) : Int) + 1 + ((k : Nat) : Int)), ((v : Nat) : Int)))])).symm
            · rw [if_neg (by rw [hb]; decide), List.append_nil] at es
              exact ⟨_, _, rfl, by rw [es]⟩
          · rintro ε' ⟨_, s5, rfl, rfl⟩
            refine ⟨_, _, _, rfl, ?_⟩
            rw [eh]
            unfold LU
            rw [flat_succ, ← List.append_assoc]
        · rintro ε' ⟨_, s4, s5, rfl, rfl⟩
          refine ⟨_, _, _, _, rfl, ?_⟩
          rw [show (((W : Nat) : Int) + 1 - (((x : Nat) : Int) + 1)).toNat = W - x by omega]
          unfold LY
          rw [flat_succ, ← List.append_assoc]
      · rintro ε' ⟨_, s3, s4, s5, rfl, rfl⟩
        refine ⟨_, _, _, _, _, rfl, ?_⟩
        rw [eh]
        unfold LX
        rw [flat_succ]
    · rintro ε' ⟨_, s2, s3, s4, s5, rfl, rfl⟩
      rw [ew]
      have ll : (prs fNe W Hh).length ≤ 100000 := Nat.le_trans (prs_len fNe w8 h8) (by decide)
      refine d_one (d_retN (dn_sortedL (ds := (prs fNe W Hh).map trD) (u64 hr) B.sorted (dv 1) (trD_ok _ ll) (by rw [immAll_map imm_trD]; rfl)) ?_)
      show Dt.lst _ = _
      rw [trD_sort]
def R_law_east (ds : List Dt) (d : Dt) : Prop := ∃ W H : Nat, W ≤ 8 ∧ H ≤ 8 ∧ ds = [bD W H] ∧ d = .dic (kvT (sortP W H) Tri.eastT)
abbrev FD_law_east (T : List (Addr × Str)) (P : Program) (w : World) (K : PySem.W.Frag) (mg : Str → Option Value) (base : Heap) : Prop := FnD T P w K mg base "_law_east" 2 ["_law_board_here"] R_law_east
theorem f_law_east (B : Bi mg) (h : Has K mg "_law_east" "_law_east" s_law_east) (F_law_pairs : FD_law_pairs T P w K mg base) : FD_law_east T P w K mg base := by
  refine fnD_at (N := ["_law_board_here", "_law_table", "_law_row"]) h ⟨rfl, rfl, rfl, by decide +kernel, rfl, by decide +kernel, by decide +kernel⟩ ?_ ?_
  · intro kV doc pm an cdv ct us hl
    match us, hl with
    | [u0], _ => rfl
  · have nd : (["_law_board_here", "_law_table", "_law_row"] : List Str).Nodup := by decide +kernel
    rintro f cdv A outer s H E ds d hr hl ⟨W, Hh, w8, h8, rfl, rfl⟩
    refine d_cons (d_setD 1 nd dd_new ?_)
    refine d_cons (d_for (di_list (ds := (sortP W Hh).map trD) (DG.lst (dn_call F_law_pairs hr (da_cons (dv 0) da_nil) ⟨W, Hh, w8, h8, rfl, rfl⟩ (immAll_map imm_trD _)))) (fun i hi => tg_name 2 nd) (fun i ε => ∃ kvs s2, ε = [.val (bD W Hh), .od kvs, s2] ∧ kvs = kvT ((sortP W Hh).take i) Tri.eastT) ⟨_, _, rfl, rfl⟩ ?_ ?_)
    · rintro i ε' hi ⟨_, s2, rfl, rfl⟩
      rw [List.length_map] at hi
      obtain ⟨⟨p, q⟩, e⟩ : ∃ pq, (sortP W Hh)[i]? = some pq := ⟨_, List.getElem?_eq_getElem hi⟩
      have ei : ((sortP W Hh).map trD).getD i .non = trD (p, q) := by rw [List.getD_eq_getElem?_getD, List.getElem?_map, e]; rfl
      rw [ei]
      refine d_one (d_put 1 [cK p, cK q] (u9 hr) rfl (de_pD (de_ixT (d := cD p) (dv 2) de_int rfl) (de_ixT (d := cD q) (dv 2) de_int rfl)) de_str rfl ?_ ⟨_, _, rfl, ?_⟩)
      · rw [kvT_len]; have := sortP_len w8 h8; have := List.length_take_le i (sortP W Hh); omega
      · rw [List.take_add_one, e]
        exact kvT_new (d := .E) (nd_take (sortP_srt W Hh).nd e) rfl fun _ _ => rfl
    · rintro ε' ⟨_, s2, rfl, rfl⟩
      rw [List.length_map, List.take_length]
      exact d_one (d_retOD 1 rfl rfl)
end
end Cp
end
section
set_option maxHeartbeats 4000000
namespace Cp
open PySem PySem.Spec PyProof.Rows L2

open PySem.W
def tl (t : Co → Co → Tri.L) (l : List (Co × Co)) : List Tri.L := l.map fun z => t z.1 z.2
theorem tl_len (t : Co → Co → Tri.L) (l : List (Co × Co)) : (tl t l).length = l.length := by unfold tl; simp
theorem tl_snoc (t : Co → Co → Tri.L) (l : List (Co × Co)) (p q : Co) : tl t l ++ [t p q] = tl t (l ++ [(p, q)]) := by unfold tl; simp
theorem lets_length (l : List Tri.L) : (lets l).length = l.length := lets_size l
theorem lS_length (x : Tri.L) : (lS x).length = 1 := by cases x <;> rfl
theorem lS_eq (x y : Tri.L) : decide (lS x = lS y) = decide (x = y) := by cases x <;> cases y <;> decide
theorem kd_p (p q : Co) : pD p q = kd (pK p q) := rfl
def zeroOne (bits : List Int) : Prop := ∀ k, 0 ≤ bits.getD k 0 ∧ bits.getD k 0 < 2
theorem drop_last2 {p : Co} {l : List Co} (h : l ≠ []) : 2 ≤ (p :: l).length := by
  have := List.length_pos_iff.mpr h
  simp; omega
/-- the admissible letters among the first ones asked -/
def optsN (t : Co → Co → Tri.L) (p q : Co) (i : Nat) : List Tri.L := (([Tri.L.E, Tri.steepL p q].take i).filter fun l => decide (Tri.adm t p q l))
theorem optsN_two (t : Co → Co → Tri.L) (p q : Co) : optsN t p q 2 = Tri.opts t p q := rfl
theorem optsN_succ (t : Co → Co → Tri.L) (p q : Co) {i : Nat} (h : i < 2) : optsN t p q (i + 1) = optsN t p q i ++ (if Tri.adm t p q ([Tri.L.E, Tri.steepL p q].getD i .E) then [[Tri.L.E, Tri.steepL p q].getD i .E] else []) := by
  unfold optsN
  rw [take_snoc (d := Tri.L.E) (by simpa using h), List.filter_append]
  congr 1
  by_cases g : Tri.adm t p q ([Tri.L.E, Tri.steepL p q].getD i .E)
  · rw [if_pos g, List.filter_cons, if_pos (decide_eq_true g), List.filter_nil]
  · rw [if_neg g, List.filter_cons, if_neg (by rw [decide_eq_true_iff]; exact g), List.filter_nil]
theorem sL_aux : True := trivial
def sL (l : List Tri.L) : List Dt := l.map fun x => .str (lS x)
theorem sL_snoc (l : List Tri.L) (x : Tri.L) : sL l ++ [.str (lS x)] = sL (l ++ [x]) := by unfold sL; simp
theorem sL_len (l : List Tri.L) : (sL l).length = l.length := by unfold sL; simp
theorem sL_at {l : List Tri.L} {k : Nat} (h : k < l.length) : atI (sL l) (k : Nat) = some (.str (lS (l.getD k .E))) := by
  unfold atI ixN sL
  simp [h]

theorem sL_atI {l : List Tri.L} {i : Int} (h0 : 0 ≤ i) (h : i.toNat < l.length) : atI (sL l) i = some (.str (lS (l.getD i.toNat .E))) := by
  have e : ((i.toNat : Nat) : Int) = i := by omega
  have := sL_at h
  rw [e] at this
  exact this
theorem before_mem {S : List (Co × Co)} {W H : Int} {p q r z : Co} {i : Nat} (c : Tri.Srt S W H) (e : S[i]? = some (p, q)) (a1 : Tri.onB W H r) (a2 : Tri.onB W H z) (a3 : r.1 < z.1) (a4 : r.2 ≠ z.2) (a5 : Tri.dist r z < Tri.dist p q) : (r, z) ∈ S.take i := by
  obtain ⟨j, hj⟩ := List.getElem?_of_mem ((c.mem r z).mpr ⟨a1, a2, a3, a4⟩)
  have hj' := List.getElem?_eq_some_iff.mp hj
  have he' := List.getElem?_eq_some_iff.mp e
  have hji : j < i := by
    rcases Nat.lt_trichotomy j i with h | h | h
    · exact h
    · subst h; rw [e] at hj; cases hj; omega
    · exfalso
      have := List.pairwise_iff_getElem.mp c.ord i j he'.1 hj'.1 h
      rw [he'.2, hj'.2] at this
      simp only at this
      omega
  rw [← hj'.2]
  exact List.mem_iff_getElem.mpr ⟨j, by rw [List.length_take]; have := hj'.1; omega, by rw [List.getElem_take]⟩
section
variable {T : List (Addr × Str)} {P : Program} {w : World} {K : PySem.W.Frag} {mg : Str → Option Value} {base : Heap}
def R_law_texts (ds : List Dt) (d : Dt) : Prop := ∃ kvs t, ∃ W H : Nat, Tab kvs t W H ∧ ds = [bD W H, .dic kvs] ∧ d = .tup [.str (lets (tl t (prs fUp W H))), .str (lets (tl t (prs fDn W H)))]
abbrev FD_law_texts (T : List (Addr × Str)) (P : Program) (w : World) (K : PySem.W.Frag) (mg : Str → Option Value) (base : Heap) : Prop := FnD T P w K mg base "_law_texts" 1 ["_law_board_here", "_law_table"] R_law_texts
theorem f_law_texts (B : Bi mg) (h : Has K mg "_law_texts" "_law_texts" s_law_texts) : FD_law_texts T P w K mg base := by
  refine fnD_at (N := ["_law_board_here", "_law_table", "_law_upward", "_law_downward", "_law_x", "_law_y", "_law_u", "_law_v"]) h ⟨rfl, rfl, rfl, by decide +kernel, rfl, by decide +kernel, by decide +kernel⟩ ?_ ?_
  · intro kV doc pm an cdv ct us hl
    match us, hl with
    | [u0, u1], _ => rfl
  · have nd : (["_law_board_here", "_law_table", "_law_upward", "_law_downward", "_law_x", "_law_y", "_law_u", "_law_v"] : List Str).Nodup := by decide +kernel
    rintro f cdv A outer s H E ds d hr hl ⟨kvs, t, W, Hh, tab, rfl, rfl⟩
    have w8 := tab.w8
    have h8 := tab.h8
    have ew : (((W : Nat) : Int) + 1).toNat = W + 1 := by omega
    have eh : (((Hh : Nat) : Int) + 1).toNat = Hh + 1 := by omega
    refine d_cons (d_set 2 nd (DG.strong de_str rfl) ?_)
    refine d_cons (d_set 3 nd (DG.strong de_str rfl) ?_)
    refine d_cons (d_for (di_range1 B.range (de_add ((de_c0 (dv 0) de_int).cast (d1 := .int (W : Int)) rfl) de_int) (by omega)) (fun i hi => tg_name 4 nd) (fun i ε => ∃ a b s4 s5 s6 s7, ε = [.val (bD W Hh), .val (.dic kvs), .val (.str a), .val (.str b), s4, s5, s6, s7] ∧ a = lets (tl t (LX fUp W Hh i)) ∧ b = lets (tl t (LX fDn W Hh i))) ⟨_, _, _, _, _, _, rfl, rfl, rfl⟩ ?_ ?_)
    · rintro x ε' hx ⟨_, _, s4, s5, s6, s7, rfl, rfl, rfl⟩
      rw [ew] at hx
      refine d_one (d_for (di_range1 B.range (de_add ((de_c1 (dv 0) de_int).cast (d1 := .int (Hh : Int)) rfl) de_int) (by omega)) (fun i hi => tg_name 5 nd) (fun j ε => ∃ a b s5 s6 s7, ε = [.val (bD W Hh), .val (.dic kvs), .val (.str a), .val (.str b), .val (.int (x : Nat)), s5, s6, s7] ∧ a = lets (tl t (LX fUp W Hh x ++ LY fUp W Hh x j)) ∧ b = lets (tl t (LX fDn W Hh x ++ LY fDn W Hh x j))) ⟨_, _, _, _, _, rfl, by simp [LY, flat_zero], by simp [LY, flat_zero]⟩ ?_ ?_)
      · rintro y ε' hy ⟨_, _, s5, s6, s7, rfl, rfl, rfl⟩
        rw [eh] at hy
        refine d_one (d_for (di_range2 B.range (de_add (dv 4) de_int) (de_add ((de_c0 (dv 0) de_int).cast (d1 := .int (W : Int)) rfl) de_int) (by omega)) (fun i hi => tg_name 6 nd) (fun k ε => ∃ a b s6 s7, ε = [.val (bD W Hh), .val (.dic kvs), .val (.str a), .val (.str b), .val (.int (x : Nat)), .val (.int (y : Nat)), s6, s7] ∧ a = lets (tl t (LX fUp W Hh x ++ LY fUp W Hh x y ++ LU fUp Hh x y k)) ∧ b = lets (tl t (LX fDn W Hh x ++ LY fDn W Hh x y ++ LU fDn Hh x y k))) ⟨_, _, _, _, rfl, by simp [LU, flat_zero], by simp [LU, flat_zero]⟩ ?_ ?_)
        · rintro k ε' hk ⟨_, _, s6, s7, rfl, rfl, rfl⟩
          have hk : k < ((W : Int) + 1 - (((x : Nat) : Int) + 1)).toNat := hk
          refine d_one (d_for (di_range1 B.range (de_add ((de_c1 (dv 0) de_int).cast (d1 := .int (Hh : Int)) rfl) de_int) (by omega)) (fun i hi => tg_name 7 nd) (fun v ε => ∃ a b s7, ε = [.val (bD W Hh), .val (.dic kvs), .val (.str a), .val (.str b), .val (.int (x : Nat)), .val (.int (y : Nat)), .val (.int (((x : Nat) : Int) + 1 + ((k : Nat) : Int))), s7] ∧
            a = lets (tl t (LX fUp W Hh x ++ LY fUp W Hh x y ++ LU fUp Hh x y k ++ LV fUp x y (((x : Nat) : Int) + 1 + ((k : Nat) : Int)) v)) ∧ b = lets (tl t (LX fDn W Hh x ++ LY fDn W Hh x y ++ LU fDn Hh x y k ++ LV fDn x y (((x : Nat) : Int) + 1 + ((k : Nat) : Int)) v))) ⟨_, _, _, rfl, by simp [LV], by simp [LV]⟩ ?_ ?_)
          · rintro v ε' hv ⟨_, _, s7, rfl, rfl, rfl⟩
            rw [eh] at hv
            have es1 := LV_succ fUp x y (((x : Nat) : Int) + 1 + ((k : Nat) : Int)) v
            have es2 := LV_succ fDn x y (((x : Nat) : Int) + 1 + ((k : Nat) : Int)) v
            have len : ∀ f, (LX f W Hh x ++ LY f W Hh x y ++ LU f Hh x y k ++ LV f x y (((x : Nat) : Int) + 1 + ((k : Nat) : Int)) v).length ≤ 100000 := by
              intro f
              rw [List.length_append, List.length_append, List.length_append]
              have l1 := LX_len f w8 h8 x
              have l2 := LY_len f w8 h8 x y
              have l3 := LU_len f h8 x y k
              have l4 := LV_len f x y (((x : Nat) : Int) + 1 + ((k : Nat) : Int)) v
              omega
            have tat : ((v : Nat) : Int) ≠ ((y : Nat) : Int) → getD kvs (pK (((x : Nat) : Int), ((y : Nat) : Int)) ((((x : Nat) : Int) + 1 + ((k : Nat) : Int)), ((v : Nat) : Int))) = some (.str (lS (t (((x : Nat) : Int), ((y : Nat) : Int)) ((((x : Nat) : Int) + 1 + ((k : Nat) : Int)), ((v : Nat) : Int))))) := fun hne =>
              tab.tab _ _ (by unfold Tri.onB; simp only; omega) (by unfold Tri.onB; simp only; omega) (by simp only; omega) (fun e => hne e.symm)
            refine d_cons (DS.imp (P1 := fun o => ∃ a', o = .nx [.val (bD W Hh), .val (.dic kvs), .val (.str a'), .val (.str (lets (tl t (LX fDn W Hh x ++ LY fDn W Hh x y ++ LU fDn Hh x y k ++ LV fDn x y (((x : Nat) : Int) + 1 + ((k : Nat) : Int)) v)))), .val (.int (x : Nat)), .val (.int (y : Nat)), .val (.int (((x : Nat) : Int) + 1 + ((k : Nat) : Int))), .val (.int (v : Nat))] ∧ a' = lets (tl t (LX fUp W Hh x ++ LY fUp W Hh x y ++ LU fUp Hh x y k ++ LV fUp x y (((x : Nat) : Int) + 1 + ((k : Nat) : Int)) (v + 1)))) (d_if (bc := fUp y v) (dt_cmp c_gt (dv 7) (dv 5) rfl) (fun hb => ?_) (fun hb => d_nil ?_)) ?_)
            · rw [if_pos hb] at es1
              have hb : ((y : Nat) : Int) < ((v : Nat) : Int) := of_decide_eq_true hb
              refine d_one (d_set 2 nd (DG.strong (de_addS (dv 2) (de_gp (u9 hr) (dv 1) (de_pD (de_cD (dv 4) (dv 5)) (de_cD (dv 6) (dv 7))) (tat (by omega))) ?_) rfl) ⟨_, rfl, ?_⟩)
              · rw [lets_length, tl_len, lS_length, sizeLine_eq]; have := len fUp; omega
              · rw [lets_snoc, tl_snoc, es1, ← List.append_assoc]
            · rw [if_neg (by rw [hb]; decide), List.append_nil] at es1
              exact ⟨_, rfl, by rw [es1]⟩
            · rintro _ ⟨_, rfl, rfl⟩
              refine d_one (d_if (bc := fDn y v) (dt_cmp c_lt (dv 7) (dv 5) rfl) (fun hb => ?_) (fun hb => d_nil ?_))
              · rw [if_pos hb] at es2
                have hb : ((v : Nat) : Int) < ((y : Nat) : Int) := of_decide_eq_true hb
                refine d_one (d_set 3 nd (DG.strong (de_addS (dv 3) (de_gp (u9 hr) (dv 1) (de_pD (de_cD (dv 4) (dv 5)) (de_cD (dv 6) (dv 7))) (tat (by omega))) ?_) rfl) ⟨_, _, _, rfl, rfl, ?_⟩)
                · rw [lets_length, tl_len, lS_length, sizeLine_eq]; have := len fDn; omega
                · rw [lets_snoc, tl_snoc, es2, ← List.append_assoc]
              · rw [if_neg (by rw [hb]; decide), List.append_nil] at es2
                exact ⟨_, _, _, rfl, rfl, by rw [es2]⟩
          · rintro ε' ⟨_, _, s7, rfl, rfl, rfl⟩
            rw [eh]
            refine ⟨_, _, _, _, rfl, ?_, ?_⟩ <;> (unfold LU; rw [flat_succ, ← List.append_assoc])
        · rintro ε' ⟨_, _, s6, s7, rfl, rfl, rfl⟩
          rw [show (((W : Nat) : Int) + 1 - (((x : Nat) : Int) + 1)).toNat = W - x by omega]
          refine ⟨_, _, _, _, _, rfl, ?_, ?_⟩ <;> (unfold LY; rw [flat_succ, ← List.append_assoc])
      · rintro ε' ⟨_, _, s5, s6, s7, rfl, rfl, rfl⟩
        rw [eh]
        refine ⟨_, _, _, _, _, _, rfl, ?_, ?_⟩ <;> (unfold LX; rw [flat_succ])
    · rintro ε' ⟨_, _, s4, s5, s6, s7, rfl, rfl, rfl⟩
      rw [ew]
      exact d_one (d_ret (de_tup (da_cons (dv 2) (da_cons (dv 3) da_nil))) rfl)
def R_law_fill (ds : List Dt) (d : Dt) : Prop := ∃ W H : Nat, ∃ bits : List Int, W ≤ 8 ∧ H ≤ 8 ∧ 0 < bits.length ∧ bits.length < 1000 ∧ zeroOne bits ∧ ds = [bD W H, .dic [], .lst (iL bits)] ∧ d = .dic (kvT (sortP W H) (Tri.fillN bits (sortP W H) (sortP W H).length).1)
abbrev FD_law_fill (T : List (Addr × Str)) (P : Program) (w : World) (K : PySem.W.Frag) (mg : Str → Option Value) (base : Heap) : Prop := FnD T P w K mg base "_law_fill" 3 ["_law_board_here", "_law_forced", "_law_bits_here"] R_law_fill
theorem f_law_fill (B : Bi mg) (h : Has K mg "_law_fill" "_law_fill" s_law_fill) (F_law_pairs : FD_law_pairs T P w K mg base) (F_law_walk : FD_law_walk T P w K mg base) (F_law_moved : FD_law_moved T P w K mg base) (F_law_letter : FD_law_letter T P w K mg base) : FD_law_fill T P w K mg base := by
  refine fnD_at (N := ["_law_board_here", "_law_forced", "_law_bits_here", "_law_table", "_law_k", "_law_row", "_law_p", "_law_q", "_law_steep", "_law_options", "_law_letter_here", "_law_line_here"]) h ⟨rfl, rfl, rfl, by decide +kernel, rfl, by decide +kernel, by decide +kernel⟩ ?_ ?_
  · intro kV doc pm an cdv ct us hl
    match us, hl with
    | [u0, u1, u2], _ => rfl
  · have nd : (["_law_board_here", "_law_forced", "_law_bits_here", "_law_table", "_law_k", "_law_row", "_law_p", "_law_q", "_law_steep", "_law_options", "_law_letter_here", "_law_line_here"] : List Str).Nodup := by decide +kernel
    rintro f cdv A outer s H E ds d hr hl ⟨W, Hh, bits, w8, h8, b0, b1, hbits, rfl, rfl⟩
    have c := sortP_srt W Hh
    have sl := sortP_len w8 h8
    generalize hS : sortP W Hh = S at c sl ⊢
    refine d_cons (d_setD 3 nd dd_new ?_)
    refine d_cons (d_set 4 nd (DG.strong de_int rfl) ?_)
    refine d_cons (d_for (di_list (ds := S.map trD) (DG.lst (dn_call F_law_pairs hr (da_cons (dv 0) da_nil) ⟨W, Hh, w8, h8, rfl, by rw [hS]⟩ (immAll_map imm_trD _)))) (fun i hi => tg_name 5 nd) (fun i ε => ∃ kvs kk s5 s6 s7 s8 s9 s10 s11, ε = [.val (bD W Hh), .val (.dic []), .val (.lst (iL bits)), .od kvs, .val (.int kk), s5, s6, s7, s8, s9, s10, s11] ∧ kvs = kvT (S.take i) (Tri.fillN bits S i).1 ∧ kk = (((Tri.fillN bits S i).2 : Nat) : Int)) ⟨_, _, _, _, _, _, _, _, _, rfl, rfl, rfl⟩ ?_ ?_)
    · rintro i ε' hi ⟨_, _, s5, s6, s7, s8, s9, s10, s11, rfl, rfl, rfl⟩
      rw [List.length_map] at hi
      obtain ⟨⟨p, q⟩, e⟩ : ∃ pq, S[i]? = some pq := ⟨_, List.getElem?_eq_getElem hi⟩
      have ei : (S.map trD).getD i .non = trD (p, q) := by rw [List.getD_eq_getElem?_getD, List.getElem?_map, e]; rfl
      rw [ei]
      obtain ⟨f, hk⟩ := Tri.fill_inv c hbits i (by omega)
      have cn := Tri.FI.cn c f e
      obtain ⟨o1, o2, o3, o4⟩ := c.on e
      have esucc := Tri.fillN_succ (bits := bits) e
      generalize hst : Tri.fillN bits S i = st at f hk cn esucc ⊢
      obtain ⟨t, kk⟩ := st
      simp only at f hk cn esucc ⊢
      have tat : ∀ r z, Tri.onB (W : Nat) (Hh : Nat) r → Tri.onB (W : Nat) (Hh : Nat) z → r.1 ≤ z.1 → Tri.dist r z < Tri.dist p q → TabAt (kvT (S.take i) t) t r z := fun r z a1 a2 a3 a5 h1 h2 => kvT_get (before_mem c e a1 a2 (by omega) h1 a5)
      have el : kvT (S.take i) t = kvT (S.take i) t := rfl
      have kvl : (kvT (S.take i) t).length ≤ 100000 := by rw [kvT_len]; have := List.length_take_le i S; omega
      refine d_cons (d_set 6 nd (DG.strong (de_ixT (d := cD p) (dv 5) de_int rfl) rfl) ?_)
      refine d_cons (d_set 7 nd (DG.strong (de_ixT (d := cD q) (dv 5) de_int rfl) rfl) ?_)
      refine d_cons (d_set 8 nd (DG.strong de_str rfl) ?_)
      refine d_cons (DS.imp (P1 := fun o => o = .nx [.val (bD W Hh), .val (.dic []), .val (.lst (iL bits)), .od (kvT (S.take i) t), .val (.int (kk : Nat)), .val (trD (p, q)), .val (cD p), .val (cD q), .val (.str (lS (Tri.steepL p q))), s9, s10, s11]) (d_if (dt_cmp c_lt (de_c1 (dv 7) de_int) (de_c1 (dv 6) de_int) rfl) (fun hb => ?_) (fun hb => d_nil ?_)) ?_)
      · have hb : q.2 < p.2 := of_decide_eq_true hb
        have es : Tri.steepL p q = .S := if_neg (by omega)
        refine d_one (d_set 8 nd (DG.strong de_str rfl) ?_)
        rw [es]; rfl
      · have hb : ¬ q.2 < p.2 := of_decide_eq_false hb
        have es : Tri.steepL p q = .N := if_pos (by omega)
        show Oc.nx _ = _
        rw [es]; rfl
      rintro _ rfl
      refine d_cons (d_setO 9 nd (dn_lst da_nil rfl) ?_)
      refine d_cons (d_for (di_list (ds := sL [Tri.L.E, Tri.steepL p q]) (DG.lst (dn_lst (da_cons de_str (da_cons (dv 8) da_nil)) rfl))) (fun i hi => tg_name 10 nd) (fun j ε => ∃ os s10 s11, ε = [.val (bD W Hh), .val (.dic []), .val (.lst (iL bits)), .od (kvT (S.take i) t), .val (.int (kk : Nat)), .val (trD (p, q)), .val (cD p), .val (cD q), .val (.str (lS (Tri.steepL p q))), .ol os, s10, s11] ∧ os = sL (optsN t p q j)) ⟨_, _, _, rfl, rfl⟩ ?_ ?_)
      · rintro j ε' hj ⟨_, s10, s11, rfl, rfl⟩
        have hj : j < 2 := hj
        have eo := optsN_succ t p q hj
        have hlm : [Tri.L.E, Tri.steepL p q].getD j .E = .E ∨ [Tri.L.E, Tri.steepL p q].getD j .E = Tri.steepL p q := by
          match j, hj with
          | 0, _ => exact .inl rfl
          | 1, _ => exact .inr rfl
        have ed : (sL [Tri.L.E, Tri.steepL p q]).getD j .non = .str (lS ([Tri.L.E, Tri.steepL p q].getD j .E)) := by
          match j, hj with
          | 0, _ => rfl
          | 1, _ => rfl
        rw [ed]
        generalize [Tri.L.E, Tri.steepL p q].getD j .E = l at hlm eo ⊢
        obtain ⟨s, hs, Hf, H2, n1, n2, Pth⟩ := Tri.path_of cn o1 o2 o3 o4 hlm
        obtain ⟨m1, m2, m3⟩ := Tri.sl_near cn o1 o2 o3 o4 hlm
        have d16 := dist_le w8 h8 o1 o2
        have ew : Tri.walk t 40 (Tri.mv p l) q = Tri.wk t (Tri.mv p l) q := Tri.walk_fuel cn hs _ _ q rfl n1 o2 H2 (by omega) 40 (by omega)
        have Pw := Tri.wkP cn hs n1 o2 H2 (by omega)
        have hw : ∀ r ∈ Tri.walk t 40 (Tri.mv p l) q, r ≠ q → TabAt (kvT (S.take i) t) t r q := fun r hr _ => by
          rw [ew] at hr
          obtain ⟨_, g2, g3⟩ := Tri.path_halves hs Pw hr
          exact tat r q (Tri.path_on hs Pw n1 o2 r hr) o2 g2.1 (by omega)
        have l2 : 2 ≤ (p :: Tri.wk t (Tri.mv p l) q).length := drop_last2 Pw.ne_nil
        have lw : (Tri.wk t (Tri.mv p l) q).length ≤ 100 := by rw [Tri.wk_len cn hs n1 o2 H2 (by omega)]; omega
        refine d_cons (d_set 11 nd (DG.lst (dn_cat (ds := cL [p]) (es := cL (Tri.wk t (Tri.mv p l) q)) (dn_lst (da_cons (dv 6) da_nil) rfl).lstW (dn_call (ds' := cL (Tri.wk t (Tri.mv p l) q)) F_law_walk hr (da_cons (dv 3) (da_cons (de_call (d := cD (Tri.mv p l)) F_law_moved hr (da_cons (dv 6) (da_cons (dv 10) da_nil)) ⟨p, l, rfl, rfl⟩) (da_cons (dv 7) da_nil))) ⟨_, t, Tri.mv p l, q, hw, rfl, by rw [ew]⟩ (imm_cL _)).lstW (by rw [cL_len, cL_len, sizeLine_eq]; simp; omega) (by rw [cL_app]; exact imm_cL _))) ?_)
        rw [cL_app]
        refine d_one (d_if (bc := decide (Tri.adm t p q l)) ((dt_cmp c_eqS (de_call (d := .str (lS (Tri.fl t p (Tri.sl (p :: Tri.wk t (Tri.mv p l) q))))) F_law_letter hr (da_cons (dv 3) (da_cons (dv 6) (da_cons (de_ixL (dv 11) (de_neg de_int) (atI_m2 l2)) da_nil))) ⟨_, t, p, _, tat p _ o1 m1 m3 (by omega), rfl, rfl⟩) (dv 10) rfl).cast (lS_eq _ _)) (fun hb => ?_) (fun hb => d_nil ?_))
        · have hb : Tri.adm t p q l := of_decide_eq_true hb
          rw [if_pos hb] at eo
          refine d_one (d_app 9 rfl (dv 10) rfl ?_ ⟨_, _, _, rfl, ?_⟩)
          · rw [sL_len]; unfold optsN; have := List.length_filter_le (fun l => decide (Tri.adm t p q l)) ([Tri.L.E, Tri.steepL p q].take j); have := List.length_take_le j [Tri.L.E, Tri.steepL p q]; omega
          · rw [eo, sL_snoc]
        · have hb : ¬ Tri.adm t p q l := of_decide_eq_false hb
          rw [if_neg hb, List.append_nil] at eo
          exact ⟨_, _, _, rfl, by rw [eo]⟩
      · rintro ε' ⟨_, s10, s11, rfl, rfl⟩
        have e2 : (sL [Tri.L.E, Tri.steepL p q]).length = 2 := rfl
        rw [e2, optsN_two]
        obtain ⟨len0, len2⟩ := Tri.opts_len cn o1 o2 o3 o4
        have keep : ∀ l, ∀ z ∈ S.take i, t z.1 z.2 = Tri.updT t p q l z.1 z.2 := fun l z hz => by
          rw [Tri.updT_ne]
          rintro ⟨z1, z2⟩
          apply nd_take c.nd e
          have : z = (p, q) := Prod.ext z1 z2
          rw [← this]; exact hz
        refine d_one (d_ifF ((dt_cmp (c_inD [cK p, cK q] (u9 hr)) (de_pD (dv 6) (dv 7)) (dv 1) rfl).cast rfl) ?_)
        refine d_one (d_if (dt_cmp c_eqI (de_lenL B.len (dv 9)) de_int rfl) (fun hb => ?_) (fun hb => ?_))
        · have hb : (Tri.opts t p q).length = 1 := by
            have := of_decide_eq_true hb
            rw [sL_len] at this; omega
          have ef : Tri.fstep bits (t, kk) (p, q) = (Tri.updT t p q ((Tri.opts t p q).getD 0 .E), kk) := if_pos hb
          refine d_one (d_put 3 [cK p, cK q] (u9 hr) rfl (de_pD (dv 6) (dv 7)) (de_ixL (dv 9) de_int (sL_at (k := 0) len0)) rfl kvl ⟨_, _, _, _, _, _, _, _, _, rfl, ?_, ?_⟩)
          · rw [esucc, ef, List.take_add_one, e]
            exact kvT_new (nd_take c.nd e) Tri.updT_same.symm (keep _)
          · rw [esucc, ef]
        · have hb : ¬ (Tri.opts t p q).length = 1 := fun q1 => by
            have := of_decide_eq_false hb
            rw [sL_len, q1] at this; exact this rfl
          have hm : kk % bits.length < bits.length := Nat.mod_lt _ b0
          obtain ⟨z1, z2⟩ := hbits (kk % bits.length)
          have ef : Tri.fstep bits (t, kk) (p, q) = (Tri.updT t p q ((Tri.opts t p q).getD (bits.getD (kk % bits.length) 0).toNat .E), kk + 1) := if_neg hb
          have em : (((kk : Nat) : Int)) % ((bits.length : Nat) : Int) = ((kk % bits.length : Nat) : Int) := by rw [Int.natCast_emod]
          refine d_cons (d_put 3 [cK p, cK q] (u9 hr) rfl (de_pD (dv 6) (dv 7)) (de_ixL (dv 9) (de_ixL (dv 2) ((de_mod (dv 4) (de_lenL B.len (dv 2)) (by unfold iL; rw [List.length_map]; omega)).cast (by unfold iL; rw [List.length_map, em])) (iL_at hm)) (sL_atI z1 (by omega))) rfl kvl ?_)
          refine d_one (d_set 4 nd (DG.strong (de_add (dv 4) de_int) rfl) ⟨_, _, _, _, _, _, _, _, _, rfl, ?_, ?_⟩)
          · rw [esucc, ef, List.take_add_one, e]
            exact kvT_new (nd_take c.nd e) Tri.updT_same.symm (keep _)
          · rw [esucc, ef]; rfl
    · rintro ε' ⟨_, _, s5, s6, s7, s8, s9, s10, s11, rfl, rfl, rfl⟩
      rw [List.length_map, List.take_length]
      exact d_one (d_retOD 3 rfl rfl)
end
end Cp
end
section
set_option maxHeartbeats 4000000
namespace Cp
open PySem PySem.Spec PyProof.Rows L2

open PySem.W
/-- the program's two words -/
structure Ws (mg : Str → Option Value) : Prop where
  up : ∃ t, mg "RISING" = some (.str "rising" t)
  dn : ∃ t, mg "FALLING" = some (.str "falling" t)
def hS (up : Bool) : Str := if up = true then "rising" else "falling"
def stL (up : Bool) : Tri.L := if up = true then .N else .S
def fH (up : Bool) : Nat → Nat → Bool := if up = true then fUp else fDn
theorem hS_eq (up : Bool) : decide (hS up = ("rising" : Str)) = up := by cases up <;> decide
def bfr (q : Co) : Tri.L → Co
  | .E => (q.1 - 1, q.2)
  | .N => (q.1, q.2 - 1)
  | .S => (q.1, q.2 + 1)
theorem filter_gt (y : Nat) : ∀ n, (List.range n).filter (fUp y) = (List.range (n - (y + 1))).map fun j => y + 1 + j
  | 0 => by simp
  | n + 1 => by
    rw [List.range_succ, List.filter_append, filter_gt y n]
    by_cases h : y < n
    · have : fUp y n = true := decide_eq_true (by omega)
      rw [show n + 1 - (y + 1) = (n - (y + 1)) + 1 by omega, List.range_succ, List.map_append]
      congr 1
      rw [List.filter_cons, if_pos this, List.filter_nil, List.map_cons, List.map_nil]
      congr 1
      omega
    · have : ¬ fUp y n = true := fun q => by have := of_decide_eq_true q; omega
      rw [show n + 1 - (y + 1) = 0 by omega, show n - (y + 1) = 0 by omega, List.filter_cons, if_neg this, List.filter_nil]; rfl
theorem filter_lt (y : Nat) : ∀ n, (List.range n).filter (fDn y) = List.range (min y n)
  | 0 => by simp
  | n + 1 => by
    rw [List.range_succ, List.filter_append, filter_lt y n]
    by_cases h : n < y
    · have : fDn y n = true := decide_eq_true (by omega)
      rw [show min y (n + 1) = min y n + 1 by omega, List.range_succ, List.filter_cons, if_pos this, List.filter_nil]
      congr 1
      rw [show min y n = n by omega]
    · have : ¬ fDn y n = true := fun q => by have := of_decide_eq_true q; omega
      rw [show min y (n + 1) = min y n by omega, List.filter_cons, if_neg this, List.filter_nil, List.append_nil]
/-- the corner's pairs -/
def LP (f : Nat → Nat → Bool) (W H : Nat) (p : Co) : List (Co × Co) := LU f H p.1.toNat p.2.toNat (W - p.1.toNat)
theorem gridC_flat (m n : Nat) : gridC m n = flat (fun x => rowC x n) m := rfl
theorem flatten_map_flat {α β : Type} {g : Nat → List α} {G : α → List β} (n : Nat) : ((flat g n).map G).flatten = flat (fun i => ((g i).map G).flatten) n := by
  induction n with
  | zero => rfl
  | succ n ih => rw [flat_succ, flat_succ, List.map_append, List.flatten_append, ih]
theorem prs_grid (f : Nat → Nat → Bool) (W H : Nat) : ((gridC (W + 1) (H + 1)).map (LP f W H)).flatten = prs f W H := by
  rw [gridC_flat, flatten_map_flat]
  unfold prs LX
  refine flat_congr fun x hx => ?_
  unfold LY flat rowC
  rw [List.map_map]
  congr 1
def pairD (pq : Co × Co) : Dt := pD pq.1 pq.2
def pL (l : List (Co × Co)) : List Dt := l.map pairD
theorem imm_pL (l : List (Co × Co)) : immAll (pL l) = true := immAll_map (fun _ => rfl) l
theorem pL_len (l : List (Co × Co)) : (pL l).length = l.length := by unfold pL; simp
theorem pL_snoc (l : List (Co × Co)) (p q : Co) : pL l ++ [pD p q] = pL (l ++ [(p, q)]) := by unfold pL pairD; simp
theorem pL_get {l : List (Co × Co)} {i : Nat} {p q : Co} (e : l[i]? = some (p, q)) : (pL l).getD i .non = pD p q := by
  unfold pL
  rw [List.getD_eq_getElem?_getD, List.getElem?_map, e]; rfl
theorem grid_at {W H i : Nat} (hi : i < (gridC (W + 1) (H + 1)).length) : ∃ x y : Nat, x ≤ W ∧ y ≤ H ∧ (gridC (W + 1) (H + 1)).getD i (0, 0) = (((x : Nat) : Int), ((y : Nat) : Int)) := by
  have hm : (gridC (W + 1) (H + 1)).getD i (0, 0) ∈ gridC (W + 1) (H + 1) := gC_mem hi
  obtain ⟨h1, h2, h3, h4⟩ := gridC_mem.mp hm
  refine ⟨_, _, ?_, ?_, Prod.ext (Int.toNat_of_nonneg h1).symm (Int.toNat_of_nonneg h3).symm⟩ <;> omega
section
variable {T : List (Addr × Str)} {X : Cx} {ε : List Sl} {e : Expr} {pos : Pos} {P : Oc → Prop}
/-- x, y = e -/
theorem d_two (i j : Nat) {x y : Str} {p1 p2 p3 : Pos} {k1} {d1 d2 : Dt} (hN : X.N.Nodup) (he : DE T X ε e (.tup [d1, d2])) (hi : immAll [d1, d2] = true) (h : P (.nx ((ε.set i (.val d1)).set j (.val d2)))) (hci : X.calm = true := by rfl)
    (ha1 : (assignEach [.Name x p1, .Name y p2] X.env).length = 2 := by rfl) (ha2 : (assignEach [.Name x p1, .Name y p2] X.env).findIdx? (·.1) = none := by rfl) (ha3 : (assignEach [.Name x p1, .Name y p2] X.env).map (·.2) = assign (.Name x p1) X.env :: (assignEach [.Name y p2] X.env).map (·.2) := by rfl) (ha4 : (assignEach [.Name y p2] X.env).map (·.2) = assign (.Name y p2) X.env :: (assignEach [] X.env).map (·.2) := by rfl)
    (h1 : X.N[i]? = some x := by rfl) (h2 : X.N[j]? = some y := by rfl) (hx : Loc X.env.scope x := by first | exact Or.inl rfl | exact Or.inr rfl) (hy : Loc X.env.scope y := by first | exact Or.inl rfl | exact Or.inr rfl)
    (hf1 : X.fn x = true ∨ X.env.scope.names.lookup x = some .local := by first | exact .inl rfl | exact .inr rfl) (hf2 : X.fn y = true ∨ X.env.scope.names.lookup y = some .local := by first | exact .inl rfl | exact .inr rfl)
    (hs : swapsWithSole [.Tuple [.Name x p1, .Name y p2] k1 p3] e pos.line X.env = pure false := by rfl) (hw : swappedStores [.Tuple [.Name x p1, .Name y p2] k1 p3] e X.env = pure none := by rfl) (hm : (assignEach [.Tuple [.Name x p1, .Name y p2] k1 p3] X.env).map (·.2) = [assign (.Tuple [.Name x p1, .Name y p2] k1 p3) X.env] := by rfl) :
    DS T X ε (.Assign [.Tuple [.Name x p1, .Name y p2] k1 p3] e pos) P := by
  have i2 : immAll [d2] = true := by
    unfold immAll at hi
    rw [Bool.and_eq_true] at hi
    exact hi.2
  exact d_asg (DG.strong he hi) (tg_tup (tgs_cons (tg_name i hN h1 hx hf1) (tgs_cons (tg_name j hN h2 hy hf2) tgs_nil rfl ha4) i2 ha3) hci ha1 ha2) h hs hw hm
/-- the same, as a target -/
theorem tg_two (i j : Nat) {x y : Str} {p1 p2 p3 : Pos} {k1} {d1 d2 : Dt} (hN : X.N.Nodup) (hi : immAll [d1, d2] = true) (hci : X.calm = true := by rfl)
    (ha1 : (assignEach [.Name x p1, .Name y p2] X.env).length = 2 := by rfl) (ha2 : (assignEach [.Name x p1, .Name y p2] X.env).findIdx? (·.1) = none := by rfl) (ha3 : (assignEach [.Name x p1, .Name y p2] X.env).map (·.2) = assign (.Name x p1) X.env :: (assignEach [.Name y p2] X.env).map (·.2) := by rfl) (ha4 : (assignEach [.Name y p2] X.env).map (·.2) = assign (.Name y p2) X.env :: (assignEach [] X.env).map (·.2) := by rfl)
    (h1 : X.N[i]? = some x := by rfl) (h2 : X.N[j]? = some y := by rfl) (hx : Loc X.env.scope x := by first | exact Or.inl rfl | exact Or.inr rfl) (hy : Loc X.env.scope y := by first | exact Or.inl rfl | exact Or.inr rfl)
    (hf1 : X.fn x = true ∨ X.env.scope.names.lookup x = some .local := by first | exact .inl rfl | exact .inr rfl) (hf2 : X.fn y = true ∨ X.env.scope.names.lookup y = some .local := by first | exact .inl rfl | exact .inr rfl) :
    DTg T X (.Tuple [.Name x p1, .Name y p2] k1 p3) (.tup [d1, d2]) ([i] ++ ([j] ++ [])) (fun ε => (ε.set i (.val d1)).set j (.val d2)) := by
  have i2 : immAll [d2] = true := by
    unfold immAll at hi
    rw [Bool.and_eq_true] at hi
    exact hi.2
  exact tg_tup (tgs_cons (tg_name i hN h1 hx hf1) (tgs_cons (tg_name j hN h2 hy hf2) tgs_nil rfl ha4) i2 ha3) hci ha1 ha2
end
section
variable {T : List (Addr × Str)} {P : Program} {w : World} {K : PySem.W.Frag} {mg : Str → Option Value} {base : Heap}
def R_moved (ds : List Dt) (d : Dt) : Prop := ∃ c l, ds = [cD c, .str (lS l)] ∧ d = cD (Tri.mv c l)
abbrev FD_moved (T : List (Addr × Str)) (P : Program) (w : World) (K : PySem.W.Frag) (mg : Str → Option Value) (base : Heap) : Prop := FnD T P w K mg base "moved" 1 ["corner", "letter"] R_moved
theorem f_moved (B : Bi mg) (h : Has K mg "moved" "moved" s_moved) : FD_moved T P w K mg base := by
  refine fnD_at (N := ["corner", "letter", "x", "y"]) h ⟨rfl, rfl, rfl, by decide +kernel, rfl, by decide +kernel, by decide +kernel⟩ ?_ ?_
  · intro kV doc pm an cdv ct us hl
    match us, hl with
    | [u0, u1], _ => rfl
  · have nd : (["corner", "letter", "x", "y"] : List Str).Nodup := by decide +kernel
    rintro f cdv A outer s H E ds d hr hl ⟨c, l, rfl, rfl⟩
    refine d_cons (d_two 2 3 nd (dv 0) rfl ?_)
    cases l with
    | E => exact d_cons (d_ifT ((dt_cmp c_eqS (dv 1) de_str rfl).cast (by decide)) (d_one (d_ret (de_cD (de_add (dv 2) de_int) (dv 3)) rfl)))
    | N => exact d_cons (d_ifF ((dt_cmp c_eqS (dv 1) de_str rfl).cast (by decide)) (d_nil (d_cons (d_ifT ((dt_cmp c_eqS (dv 1) de_str rfl).cast (by decide)) (d_one (d_ret (de_cD (dv 2) (de_add (dv 3) de_int)) rfl))))))
    | S => exact d_cons (d_ifF ((dt_cmp c_eqS (dv 1) de_str rfl).cast (by decide)) (d_nil (d_cons (d_ifF ((dt_cmp c_eqS (dv 1) de_str rfl).cast (by decide)) (d_nil (d_one (d_ret (de_cD (dv 2) (de_sub (dv 3) de_int)) rfl)))))))
def R_before (ds : List Dt) (d : Dt) : Prop := ∃ c l, ds = [cD c, .str (lS l)] ∧ d = cD (bfr c l)
abbrev FD_before (T : List (Addr × Str)) (P : Program) (w : World) (K : PySem.W.Frag) (mg : Str → Option Value) (base : Heap) : Prop := FnD T P w K mg base "before" 1 ["q", "letter"] R_before
theorem f_before (B : Bi mg) (h : Has K mg "before" "before" s_before) : FD_before T P w K mg base := by
  refine fnD_at (N := ["q", "letter", "x", "y"]) h ⟨rfl, rfl, rfl, by decide +kernel, rfl, by decide +kernel, by decide +kernel⟩ ?_ ?_
  · intro kV doc pm an cdv ct us hl
    match us, hl with
    | [u0, u1], _ => rfl
  · have nd : (["q", "letter", "x", "y"] : List Str).Nodup := by decide +kernel
    rintro f cdv A outer s H E ds d hr hl ⟨c, l, rfl, rfl⟩
    refine d_cons (d_two 2 3 nd (dv 0) rfl ?_)
    cases l with
    | E => exact d_cons (d_ifT ((dt_cmp c_eqS (dv 1) de_str rfl).cast (by decide)) (d_one (d_ret (de_cD (de_sub (dv 2) de_int) (dv 3)) rfl)))
    | N => exact d_cons (d_ifF ((dt_cmp c_eqS (dv 1) de_str rfl).cast (by decide)) (d_nil (d_cons (d_ifT ((dt_cmp c_eqS (dv 1) de_str rfl).cast (by decide)) (d_one (d_ret (de_cD (dv 2) (de_sub (dv 3) de_int)) rfl))))))
    | S => exact d_cons (d_ifF ((dt_cmp c_eqS (dv 1) de_str rfl).cast (by decide)) (d_nil (d_cons (d_ifF ((dt_cmp c_eqS (dv 1) de_str rfl).cast (by decide)) (d_nil (d_one (d_ret (de_cD (dv 2) (de_add (dv 3) de_int)) rfl)))))))
def R_steep_letter (ds : List Dt) (d : Dt) : Prop := ∃ up, ds = [.str (hS up)] ∧ d = .str (lS (stL up))
abbrev FD_steep_letter (T : List (Addr × Str)) (P : Program) (w : World) (K : PySem.W.Frag) (mg : Str → Option Value) (base : Heap) : Prop := FnD T P w K mg base "steep_letter" 1 ["half"] R_steep_letter
theorem f_steep_letter (B : Bi mg) (h : Has K mg "steep_letter" "steep_letter" s_steep_letter) (Q : Ws mg) : FD_steep_letter T P w K mg base := by
  refine fnD_at (N := ["half"]) h ⟨rfl, rfl, rfl, by decide +kernel, rfl, by decide +kernel, by decide +kernel⟩ ?_ ?_
  · intro kV doc pm an cdv ct us hl
    match us, hl with
    | [u0], _ => rfl
  · have nd : (["half"] : List Str).Nodup := by decide +kernel
    rintro f cdv A outer s H E ds d hr hl ⟨up, rfl, rfl⟩
    refine d_cons (d_if (bc := up) ((dt_cmp c_eqS (dv 0) (de_globS (by exact rfl) Q.up) rfl).cast (hS_eq up)) (fun hb => ?_) (fun hb => d_nil ?_))
    · subst hb; exact d_one (d_ret de_str rfl)
    · subst hb; exact d_one (d_ret de_str rfl)
def R_steps_between (ds : List Dt) (d : Dt) : Prop := ∃ p q, ds = [cD p, cD q] ∧ d = .int (Tri.dist p q : Nat)
abbrev FD_steps_between (T : List (Addr × Str)) (P : Program) (w : World) (K : PySem.W.Frag) (mg : Str → Option Value) (base : Heap) : Prop := FnD T P w K mg base "steps_between" 1 ["p", "q"] R_steps_between
theorem f_steps_between (B : Bi mg) (h : Has K mg "steps_between" "steps_between" s_steps_between) : FD_steps_between T P w K mg base := by
  refine fnD_at (N := ["p", "q"]) h ⟨rfl, rfl, rfl, by decide +kernel, rfl, by decide +kernel, by decide +kernel⟩ ?_ ?_
  · intro kV doc pm an cdv ct us hl
    match us, hl with
    | [u0, u1], _ => rfl
  · have nd : (["p", "q"] : List Str).Nodup := by decide +kernel
    rintro f cdv A outer s H E ds d hr hl ⟨p, q, rfl, rfl⟩
    refine d_one (d_ret (de_add (de_abs B.abs (de_sub (de_c0 (dv 0) de_int) (de_c0 (dv 1) de_int))) (de_abs B.abs (de_sub (de_c1 (dv 0) de_int) (de_c1 (dv 1) de_int)))) ?_)
    show Dt.int _ = _
    congr 1
    unfold Tri.dist
    split <;> split <;> omega
def R_on_board (ds : List Dt) (d : Dt) : Prop := ∃ W H : Nat, ∃ c, Tri.onB (W : Nat) (H : Nat) c ∧ ds = [bD W H, cD c] ∧ d = .bl true
abbrev FD_on_board (T : List (Addr × Str)) (P : Program) (w : World) (K : PySem.W.Frag) (mg : Str → Option Value) (base : Heap) : Prop := FnD T P w K mg base "on_board" 1 ["board", "corner"] R_on_board
theorem f_on_board (B : Bi mg) (h : Has K mg "on_board" "on_board" s_on_board) : FD_on_board T P w K mg base := by
  refine fnD_at (N := ["board", "corner"]) h ⟨rfl, rfl, rfl, by decide +kernel, rfl, by decide +kernel, by decide +kernel⟩ ?_ ?_
  · intro kV doc pm an cdv ct us hl
    match us, hl with
    | [u0, u1], _ => rfl
  · have nd : (["board", "corner"] : List Str).Nodup := by decide +kernel
    rintro f cdv A outer s H E ds d hr hl ⟨W, Hh, c, hon, rfl, rfl⟩
    unfold Tri.onB at hon
    have e1 : (decide ((0 : Int) ≤ c.1) && decide (c.1 ≤ (W : Int))) = true := by simp; omega
    have e2 : (decide ((0 : Int) ≤ c.2) && decide (c.2 ≤ (Hh : Int))) = true := by simp; omega
    refine d_one (d_ret (de_and (b1 := true) (b2 := true) ((de_chain c_le c_le de_int (de_c0 (dv 1) de_int) ((de_c0 (dv 0) de_int).cast (d1 := .int (W : Int)) rfl)).cast (by rw [e1])) fun _ => de_one ((de_chain c_le c_le de_int (de_c1 (dv 1) de_int) ((de_c1 (dv 0) de_int).cast (d1 := .int (Hh : Int)) rfl)).cast (by rw [e2]))) rfl)
def R_corners_of (ds : List Dt) (d : Dt) : Prop := ∃ W H : Nat, W ≤ 8 ∧ H ≤ 8 ∧ ds = [bD W H] ∧ d = .lst (cL (gridC (W + 1) (H + 1)))
abbrev FD_corners_of (T : List (Addr × Str)) (P : Program) (w : World) (K : PySem.W.Frag) (mg : Str → Option Value) (base : Heap) : Prop := FnD T P w K mg base "corners_of" 1 ["board"] R_corners_of
theorem f_corners_of (B : Bi mg) (h : Has K mg "corners_of" "corners_of" s_corners_of) : FD_corners_of T P w K mg base := by
  refine fnD_at (N := ["board", "width", "height", "x", "y"]) h ⟨rfl, rfl, rfl, by decide +kernel, rfl, by decide +kernel, by decide +kernel⟩ ?_ ?_
  · intro kV doc pm an cdv ct us hl
    match us, hl with
    | [u0], _ => rfl
  · have nd : (["board", "width", "height", "x", "y"] : List Str).Nodup := by decide +kernel
    rintro f cdv A outer s H E ds d hr hl ⟨W, Hh, w8, h8, rfl, rfl⟩
    refine d_cons (d_two 1 2 nd (dv 0) rfl ?_)
    have ew : (((W : Nat) : Int) + 1).toNat = W + 1 := by omega
    have eh : (((Hh : Nat) : Int) + 1) = ((Hh + 1 : Nat) : Int) := by omega
    refine d_one (d_retN (dn_lc2 (own := [("x", 3), ("y", 4)]) (vs1 := [4]) (js := [3]) (js1 := [4]) (f := fun i ε => ε.set 3 (.val (.int (i : Nat)))) (f1 := fun j ε => ε.set 4 (.val (.int (j : Nat)))) (B := 9) (fun _ => Hh + 1) (fun i j => cD (((i : Nat) : Int), ((j : Nat) : Int))) B.range
      (di_range1 B.range (de_add (i := (W : Int)) (j := 1) (dv 1) de_int) (by omega)) nd (blkOk_by rfl) (by decide) (fun i hi _ _ _ _ _ => tg_name 3 nd) (by decide) (fun _ _ _ _ _ => rfl) (fun _ _ _ _ _ => rfl)
      (fun i hi _ _ _ _ _ => (de_add (dv 2) de_int).cast (by rw [← eh])) (fun i j hi hj _ _ _ _ _ => tg_name 4 nd) (by decide) (fun i j hi hj _ _ _ _ _ => de_cD (dv 3) (dv 4)) (fun _ _ => rfl) (fun i hi => rfl) (fun i hi => by omega) (by omega)) ?_)
    show Dt.lst _ = _
    rw [ew]
    unfold outs2 cL gridC rowC
    rw [List.map_flatten, List.map_map]
    congr 2
    refine List.map_congr_left fun x _ => ?_
    show _ = List.map cD _
    rw [List.map_map]; rfl
end
end Cp
end
section
set_option maxHeartbeats 4000000
namespace Cp
open PySem PySem.Spec PyProof.Rows L2

open PySem.W LamX
def LVr (x y : Nat) (u : Int) (j : Nat) : List (Co × Co) := (List.range j).map fun v => ((((x : Nat) : Int), ((y : Nat) : Int)), (u, (((y : Nat) : Int) + 1 + ((v : Nat) : Int))))
def LVd (x y : Nat) (u : Int) (j : Nat) : List (Co × Co) := (List.range j).map fun v => ((((x : Nat) : Int), ((y : Nat) : Int)), (u, ((v : Nat) : Int)))
theorem LVr_succ (x y : Nat) (u : Int) (j : Nat) : LVr x y u (j + 1) = LVr x y u j ++ [((((x : Nat) : Int), ((y : Nat) : Int)), (u, (((y : Nat) : Int) + 1 + ((j : Nat) : Int))))] := by
  unfold LVr
  rw [List.range_succ, List.map_append]; rfl
theorem LVd_succ (x y : Nat) (u : Int) (j : Nat) : LVd x y u (j + 1) = LVd x y u j ++ [((((x : Nat) : Int), ((y : Nat) : Int)), (u, ((j : Nat) : Int)))] := by
  unfold LVd
  rw [List.range_succ, List.map_append]; rfl
theorem LVr_full (x y : Nat) (u : Int) (H : Nat) : LVr x y u (H - y) = LV fUp x y u (H + 1) := by
  unfold LVr LV
  rw [filter_gt, List.map_map, show H + 1 - (y + 1) = H - y by omega]
  refine List.map_congr_left fun v _ => ?_
  refine Prod.ext rfl (Prod.ext rfl ?_)
  show ((y : Nat) : Int) + 1 + ((v : Nat) : Int) = ((y + 1 + v : Nat) : Int)
  omega
theorem LVd_full (x y : Nat) (u : Int) {H : Nat} (h : y ≤ H) : LVd x y u y = LV fDn x y u (H + 1) := by
  unfold LVd LV
  rw [filter_lt, show min y (H + 1) = y by omega]
theorem LVr_len (x y : Nat) (u : Int) (j : Nat) : (LVr x y u j).length = j := by unfold LVr; simp
theorem LVd_len (x y : Nat) (u : Int) (j : Nat) : (LVd x y u j).length = j := by unfold LVd; simp
def LPs (f : Nat → Nat → Bool) (W H i : Nat) : List (Co × Co) := (((gridC (W + 1) (H + 1)).take i).map (LP f W H)).flatten
theorem LPs_succ (f : Nat → Nat → Bool) {W H i : Nat} (hi : i < (gridC (W + 1) (H + 1)).length) : LPs f W H (i + 1) = LPs f W H i ++ LP f W H ((gridC (W + 1) (H + 1)).getD i (0, 0)) := by
  unfold LPs
  rw [take_snoc (d := ((0, 0) : Co)) hi, List.map_append, List.flatten_append]; simp
theorem LP_len (f : Nat → Nat → Bool) {W H : Nat} (w8 : W ≤ 8) (h8 : H ≤ 8) (p : Co) : (LP f W H p).length ≤ 72 := Nat.le_trans (LU_len f h8 ..) (by omega)
theorem flatten_len {α : Type} {B : Nat} : ∀ (l : List (List α)), (∀ a ∈ l, a.length ≤ B) → l.flatten.length ≤ l.length * B
  | [], _ => by simp
  | a :: l, h => by
    rw [List.flatten_cons, List.length_append, List.length_cons, Nat.succ_mul]
    have h1 := h a (by simp)
    have h2 := flatten_len l fun b hb => h b (by simp [hb])
    omega
theorem LPs_len (f : Nat → Nat → Bool) {W H i : Nat} (w8 : W ≤ 8) (h8 : H ≤ 8) : (LPs f W H i).length ≤ i * 72 := by
  refine Nat.le_trans (flatten_len (B := 72) _ fun a ha => ?_) ?_
  · obtain ⟨p, _, rfl⟩ := List.mem_map.mp ha
    exact LP_len f w8 h8 p
  · rw [List.length_map]
    exact Nat.mul_le_mul_right _ (List.length_take_le ..)
theorem LPs_full (f : Nat → Nat → Bool) (W H : Nat) : LPs f W H (gridC (W + 1) (H + 1)).length = prs f W H := by
  unfold LPs
  rw [List.take_length, prs_grid]
theorem LP_at (f : Nat → Nat → Bool) (W H x y : Nat) : LP f W H (((x : Nat) : Int), ((y : Nat) : Int)) = LU f H x y (W - x) := rfl
theorem pL_nil : pL [] = [] := rfl
theorem pL_get2 {l : List (Co × Co)} {i : Nat} (h : i < l.length) : ∃ p q, l[i]? = some (p, q) ∧ (pL l).getD i .non = pD p q := by
  obtain ⟨⟨p, q⟩, e⟩ : ∃ pq, l[i]? = some pq := ⟨_, List.getElem?_eq_getElem h⟩
  exact ⟨p, q, e, pL_get e⟩
/-! ### in the order of the steps -/
def stD : Dt → Int
  | .tup [.tup [.int a, .int b], .tup [.int c, .int d]] => (Tri.dist (a, b) (c, d) : Nat)
  | _ => 0
def kfP (d : Dt) : Dt := .tup [.int (stD d), d]
theorem kfP_pD (p q : Co) : kfP (pD p q) = .tup [.int (Tri.dist p q : Nat), pD p q] := rfl
def leH (a b : Co × Co) : Bool := dleK kfP (pairD a) (pairD b)
def sortH (up : Bool) (W H : Nat) : List (Co × Co) := (prs (fH up) W H).mergeSort leH
theorem leH_dist {a b : Co × Co} (h : leH a b = true) : Tri.dist a.1 a.2 ≤ Tri.dist b.1 b.2 := by
  unfold leH dleK at h
  have h : (!dataLt (py (kfP (pairD b))) (py (kfP (pairD a)))) = true := h
  rw [Bool.not_eq_true'] at h
  have e : dataLt (py (kfP (pairD b))) (py (kfP (pairD a))) = if PyData.eqv (.int (Tri.dist b.1 b.2 : Nat)) (.int (Tri.dist a.1 a.2 : Nat)) = true then _ else dataLt (.int (Tri.dist b.1 b.2 : Nat)) (.int (Tri.dist a.1 a.2 : Nat)) := (dataLt_tuple _ _).trans (dataLt_cons rfl _ _)
  rw [e] at h
  rcases Nat.lt_or_ge (Tri.dist b.1 b.2) (Tri.dist a.1 a.2) with g | g
  · rw [if_neg (by show ¬ ((((Tri.dist b.1 b.2 : Nat) : Int) == ((Tri.dist a.1 a.2 : Nat) : Int)) = true); rw [beq_iff_eq]; omega), dataLt_int, decide_eq_false_iff_not] at h
    omega
  · exact g
theorem sortH_ord (up : Bool) (W H : Nat) : (sortH up W H).Pairwise fun a b => Tri.dist a.1 a.2 ≤ Tri.dist b.1 b.2 := by
  have T := sortLe_total (listOrd itemOrd) false (fun b : Dt => keyToks (py (kfP b)))
  have := List.pairwise_mergeSort (le := leH) (fun a b c h1 h2 => T.trans _ _ _ h1 h2) (fun a b => by rw [Bool.or_eq_true]; exact T.total (pairD a) (pairD b)) (prs (fH up) W H)
  exact this.imp leH_dist
theorem sortH_perm (up : Bool) (W H : Nat) : (sortH up W H).Perm (prs (fH up) W H) := List.mergeSort_perm _ _
theorem sortH_mem {up : Bool} {W H : Nat} {pq : Co × Co} : pq ∈ sortH up W H ↔ pq ∈ prs (fH up) W H := (sortH_perm up W H).mem_iff
theorem sortH_nodup (up : Bool) (W H : Nat) : (sortH up W H).Nodup := (sortH_perm up W H).nodup_iff.mpr (prs_nodup ..)
theorem sortH_len {W H : Nat} (up : Bool) (w8 : W ≤ 8) (h8 : H ≤ 8) : (sortH up W H).length ≤ 5832 := by
  rw [(sortH_perm up W H).length_eq]; exact prs_len _ w8 h8
theorem pL_sort (up : Bool) (W H : Nat) : (pL (prs (fH up) W H)).mergeSort (dleK kfP) = pL (sortH up W H) := (List.map_mergeSort (r := leH) (s := dleK kfP) (f := pairD) fun a _ b _ => rfl).symm
theorem kfP_ok (l : List (Co × Co)) (h : l.length ≤ 100000) : SortOk ((pL l).map kfP) := by
  have e : (pL l).map kfP = l.map fun z => kfP (pairD z) := List.map_map ..
  rw [e]
  exact {
    pl := plAll_map (fun _ => rfl) l
    al := by
      rw [List.map_map]
      exact AllAlike.of (enc := fun p => py (kfP (pairD p))) fun a b => by
        show alike (.tuple [.int _, .tuple [.tuple [.int _, .int _], .tuple [.int _, .int _]]]) (.tuple [.int _, .tuple [.tuple [.int _, .int _], .tuple [.int _, .int _]]]) = true
        simp [alike, alikeAll]
    st := by
      rw [List.map_map]
      exact Sortable.tuples (enc := fun p => py (kfP (pairD p))) fun a => ⟨_, _, rfl⟩
    dp := fun d hd => by
      obtain ⟨a, _, rfl⟩ := List.mem_map.mp hd
      show 3 ≤ 20; omega
    len := by rw [List.length_map]; exact h }
/-- a def whose code object is known -/
structure HasC (K : PySem.W.Frag) (mg : Str → Option Value) (x qual : Str) (st : Stmt) (c : Addr) : Prop where
  ok : ∃ f fd, FnP K x qual st f fd ∧ mg x = some (.ref f) ∧ fd.code = .ref c
section
variable {T : List (Addr × Str)} {P : Program} {w : World} {K : PySem.W.Frag} {mg : Str → Option Value} {base : Heap}
theorem fn_bodyC {x qual : Str} {st : Stmt} {f c : Addr} {fd : FuncData} {N ps : List Str} (F : FnP K x qual st f fd) (hc : fd.code = .ref c) (S : FnScope N ps (defScope st)) (k : Nat) (R : List Dt → Dt → Prop)
    (hb : ∀ (A : Around) (outer : List Env) (s : Shared) (H : Hp) (E : XK) (ds : List Dt) (d : Dt), Room k (A.deeper (envOfC qual (defScope st) s.heap.objs.size f (.ref c))) → ds.length = ps.length → R ds d →
      DSs T (bodyX P w K mg base N qual st f (.ref c) A outer s H E) (ds.map .val ++ List.replicate (N.length - ps.length) .no) (defBody st) (endP d)) : FnOk P w K mg base CX0 (k + 1) f fd ps (spD T P w K ps.length R) := by
  obtain ⟨oc, od, dV, kV, doc, pm, an, cdv, ct, osl, rfl, lk, hcd, _, _⟩ := F.ex
  have hc : cdv = .ref c := hc
  subst hc
  refine fn_of lk hcd S (fun vs H Q E ⟨_, ds, d, h, hl, _⟩ => h.length.trans hl) fun A outer s H vs Q E hr ⟨t, ds, d, h, hl, hR, k⟩ => ⟨_, (hb A outer s H E ds d hr hl hR).pss.nox, H, ⟨?_, ?_, ?_, ?_⟩, ?_, ?_, ?_, ?_⟩
  · rw [owns_no (noOwn_start _ _), cut_nil]; exact Ex.refl H
  · rw [owns_no (noOwn_start _ _), cut_nil]; exact t
  · rw [owns_no (noOwn_start _ _)]; exact List.nodup_nil
  · rw [owns_no (noOwn_start _ _), cut_nil]
    unfold L2.start
    rw [h.length, hl]
    exact paired_start h _
  · rintro σ' H' ⟨ε', ev', q⟩
    have q : d = .non := q
    subst q
    exact k .non H' (ev'.ex.trans cut_sub.ex) .non (fun q => by cases q)
  · rintro v H' ⟨d', q1, q2, q3, q4⟩
    have q4 : d' = d := q4
    subst q4
    exact k v H' q1 q2 q3
  · rintro σ' H' ⟨ε', _, q⟩; exact q
  · rintro σ' H' ⟨ε', _, q⟩; exact q
theorem fnD_atC {x qual : Str} {st : Stmt} {N ps : List Str} {k : Nat} {R : List Dt → Dt → Prop} {c : Addr} (h : HasC K mg x qual st c) (S : FnScope N ps (defScope st))
    (hp : ∀ (kV doc pm : Value) (an : Option Addr) (cdv ct : Value) (us : List Value), us.length = ps.length → bindArgs (PySem.W.fnOf x qual (defArgs st) (defBody st) (defScope st) .none kV doc pm an cdv ct) ⟨us, []⟩ = pure (ps.zip us))
    (hb : ∀ (f : Addr) (A : Around) (outer : List Env) (s : Shared) (H : Hp) (E : XK) (ds : List Dt) (d : Dt), Room k (A.deeper (envOfC qual (defScope st) s.heap.objs.size f (.ref c))) → ds.length = ps.length → R ds d →
      DSs T (bodyX P w K mg base N qual st f (.ref c) A outer s H E) (ds.map .val ++ List.replicate (N.length - ps.length) .no) (defBody st) (endP d)) : FnD T P w K mg base x (k + 1) ps R := by
  obtain ⟨f, fd, F, hm, hc⟩ := h.ok
  exact fnD_of F (fn_bodyC F hc S k R (hb f)) hm hp
end
section
variable {T : List (Addr × Str)} {P : Program} {w : World} {K : PySem.W.Frag} {mg : Str → Option Value} {base : Heap}
def R_rising_pairs (ds : List Dt) (d : Dt) : Prop := ∃ W H : Nat, W ≤ 8 ∧ H ≤ 8 ∧ ds = [bD W H] ∧ d = .lst (pL (prs fUp W H))
abbrev FD_rising_pairs (T : List (Addr × Str)) (P : Program) (w : World) (K : PySem.W.Frag) (mg : Str → Option Value) (base : Heap) : Prop := FnD T P w K mg base "rising_pairs" 2 ["board"] R_rising_pairs
theorem f_rising_pairs (B : Bi mg) (h : Has K mg "rising_pairs" "rising_pairs" s_rising_pairs) (F_corners_of : FD_corners_of T P w K mg base) : FD_rising_pairs T P w K mg base := by
  refine fnD_at (N := ["board", "found", "p", "x", "y"]) h ⟨rfl, rfl, rfl, by decide +kernel, rfl, by decide +kernel, by decide +kernel⟩ ?_ ?_
  · intro kV doc pm an cdv ct us hl
    match us, hl with
    | [u0], _ => rfl
  · have nd : (["board", "found", "p", "x", "y"] : List Str).Nodup := by decide +kernel
    rintro f cdv A outer s H E ds d hr hl ⟨W, Hh, w8, h8, rfl, rfl⟩
    have gl : (gridC (W + 1) (Hh + 1)).length ≤ 81 := by rw [gridC_len]; have := Nat.mul_le_mul (show W + 1 ≤ 9 by omega) (show Hh + 1 ≤ 9 by omega); omega
    refine d_cons (d_setO 1 nd (dn_lst da_nil rfl) ?_)
    refine d_cons (d_for (di_list (ds := cL (gridC (W + 1) (Hh + 1))) (DG.lst (dn_call F_corners_of hr (da_cons (dv 0) da_nil) ⟨W, Hh, w8, h8, rfl, rfl⟩ (imm_cL _)))) (fun i hi => tg_name 2 nd) (fun i ε => ∃ xs s2 s3 s4, ε = [.val (bD W Hh), .ol xs, s2, s3, s4] ∧ xs = pL (LPs fUp W Hh i)) ⟨_, _, _, _, rfl, rfl⟩ ?_ ?_)
    · rintro i ε' hi ⟨_, s2, s3, s4, rfl, rfl⟩
      rw [cL_len] at hi
      rw [cL_get hi]
      obtain ⟨x, y, hx, hy, e⟩ := grid_at hi
      have es := LPs_succ fUp hi
      rw [e, LP_at] at es
      rw [e]
      have hn := LPs_len fUp (i := i) w8 h8
      refine d_one (d_for (di_range2 B.range (de_add (i := ((x : Nat) : Int)) (de_c0 (c := (((x : Nat) : Int), ((y : Nat) : Int))) (dv 2) de_int) de_int) (de_add ((de_c0 (dv 0) de_int).cast (d1 := .int (W : Int)) rfl) de_int) (by omega)) (fun i hi => tg_name 3 nd) (fun k ε => ∃ xs s3 s4, ε = [.val (bD W Hh), .ol xs, .val (cD (((x : Nat) : Int), ((y : Nat) : Int))), s3, s4] ∧ xs = pL (LPs fUp W Hh i ++ LU fUp Hh x y k)) ⟨_, _, _, rfl, by simp [LU, flat_zero]⟩ ?_ ?_)
      · rintro k ε' hk ⟨_, s3, s4, rfl, rfl⟩
        refine d_one (d_for (di_range2 B.range (de_add (i := ((y : Nat) : Int)) (de_c1 (c := (((x : Nat) : Int), ((y : Nat) : Int))) (dv 2) de_int) de_int) (de_add ((de_c1 (dv 0) de_int).cast (d1 := .int (Hh : Int)) rfl) de_int) (by omega)) (fun i hi => tg_name 4 nd) (fun v ε => ∃ xs s4, ε = [.val (bD W Hh), .ol xs, .val (cD (((x : Nat) : Int), ((y : Nat) : Int))), .val (.int (((x : Nat) : Int) + 1 + ((k : Nat) : Int))), s4] ∧ xs = pL (LPs fUp W Hh i ++ LU fUp Hh x y k ++ LVr x y (((x : Nat) : Int) + 1 + ((k : Nat) : Int)) v)) ⟨_, _, rfl, by simp [LVr]⟩ ?_ ?_)
        · rintro v ε' hv ⟨_, s4, rfl, rfl⟩
          have hk : k < ((W : Int) + 1 - (((x : Nat) : Int) + 1)).toNat := hk
          have hv : v < ((Hh : Int) + 1 - (((y : Nat) : Int) + 1)).toNat := hv
          refine d_one (d_app 1 rfl (de_pD (dv 2) (de_cD (dv 3) (dv 4))) rfl ?_ ⟨_, _, rfl, ?_⟩)
          · rw [pL_len, List.length_append, List.length_append, LVr_len]
            have l3 := LU_len fUp h8 x y k
            omega
          · rw [LVr_succ, ← List.append_assoc]
            exact pL_snoc _ _ _
        · rintro ε' ⟨_, s4, rfl, rfl⟩
          refine ⟨_, _, _, rfl, ?_⟩
          rw [show ((Hh : Int) + 1 - (((y : Nat) : Int) + 1)).toNat = Hh - y by omega, LVr_full]
          unfold LU
          rw [flat_succ, ← List.append_assoc]
      · rintro ε' ⟨_, s3, s4, rfl, rfl⟩
        refine ⟨_, _, _, _, rfl, ?_⟩
        rw [show (((W : Nat) : Int) + 1 - (((x : Nat) : Int) + 1)).toNat = W - x by omega, es]
    · rintro ε' ⟨_, s2, s3, s4, rfl, rfl⟩
      rw [cL_len, LPs_full]
      exact d_one (d_retO 1 rfl rfl)
def R_falling_pairs (ds : List Dt) (d : Dt) : Prop := ∃ W H : Nat, W ≤ 8 ∧ H ≤ 8 ∧ ds = [bD W H] ∧ d = .lst (pL (prs fDn W H))
abbrev FD_falling_pairs (T : List (Addr × Str)) (P : Program) (w : World) (K : PySem.W.Frag) (mg : Str → Option Value) (base : Heap) : Prop := FnD T P w K mg base "falling_pairs" 2 ["board"] R_falling_pairs
theorem f_falling_pairs (B : Bi mg) (h : Has K mg "falling_pairs" "falling_pairs" s_falling_pairs) (F_corners_of : FD_corners_of T P w K mg base) : FD_falling_pairs T P w K mg base := by
  refine fnD_at (N := ["board", "found", "p", "x", "y"]) h ⟨rfl, rfl, rfl, by decide +kernel, rfl, by decide +kernel, by decide +kernel⟩ ?_ ?_
  · intro kV doc pm an cdv ct us hl
    match us, hl with
    | [u0], _ => rfl
  · have nd : (["board", "found", "p", "x", "y"] : List Str).Nodup := by decide +kernel
    rintro f cdv A outer s H E ds d hr hl ⟨W, Hh, w8, h8, rfl, rfl⟩
    have gl : (gridC (W + 1) (Hh + 1)).length ≤ 81 := by rw [gridC_len]; have := Nat.mul_le_mul (show W + 1 ≤ 9 by omega) (show Hh + 1 ≤ 9 by omega); omega
    refine d_cons (d_setO 1 nd (dn_lst da_nil rfl) ?_)
    refine d_cons (d_for (di_list (ds := cL (gridC (W + 1) (Hh + 1))) (DG.lst (dn_call F_corners_of hr (da_cons (dv 0) da_nil) ⟨W, Hh, w8, h8, rfl, rfl⟩ (imm_cL _)))) (fun i hi => tg_name 2 nd) (fun i ε => ∃ xs s2 s3 s4, ε = [.val (bD W Hh), .ol xs, s2, s3, s4] ∧ xs = pL (LPs fDn W Hh i)) ⟨_, _, _, _, rfl, rfl⟩ ?_ ?_)
    · rintro i ε' hi ⟨_, s2, s3, s4, rfl, rfl⟩
      rw [cL_len] at hi
      rw [cL_get hi]
      obtain ⟨x, y, hx, hy, e⟩ := grid_at hi
      have es := LPs_succ fDn hi
      rw [e, LP_at] at es
      rw [e]
      have hn := LPs_len fDn (i := i) w8 h8
      refine d_one (d_for (di_range2 B.range (de_add (i := ((x : Nat) : Int)) (de_c0 (c := (((x : Nat) : Int), ((y : Nat) : Int))) (dv 2) de_int) de_int) (de_add ((de_c0 (dv 0) de_int).cast (d1 := .int (W : Int)) rfl) de_int) (by omega)) (fun i hi => tg_name 3 nd) (fun k ε => ∃ xs s3 s4, ε = [.val (bD W Hh), .ol xs, .val (cD (((x : Nat) : Int), ((y : Nat) : Int))), s3, s4] ∧ xs = pL (LPs fDn W Hh i ++ LU fDn Hh x y k)) ⟨_, _, _, rfl, by simp [LU, flat_zero]⟩ ?_ ?_)
      · rintro k ε' hk ⟨_, s3, s4, rfl, rfl⟩
        refine d_one (d_for (di_range1 B.range (n := ((y : Nat) : Int)) (de_c1 (c := (((x : Nat) : Int), ((y : Nat) : Int))) (dv 2) de_int) (by omega)) (fun i hi => tg_name 4 nd) (fun v ε => ∃ xs s4, ε = [.val (bD W Hh), .ol xs, .val (cD (((x : Nat) : Int), ((y : Nat) : Int))), .val (.int (((x : Nat) : Int) + 1 + ((k : Nat) : Int))), s4] ∧ xs = pL (LPs fDn W Hh i ++ LU fDn Hh x y k ++ LVd x y (((x : Nat) : Int) + 1 + ((k : Nat) : Int)) v)) ⟨_, _, rfl, by simp [LVd]⟩ ?_ ?_)
        · rintro v ε' hv ⟨_, s4, rfl, rfl⟩
          have hk : k < ((W : Int) + 1 - (((x : Nat) : Int) + 1)).toNat := hk
          have hv : v < ((y : Nat) : Int).toNat := hv
          refine d_one (d_app 1 rfl (de_pD (dv 2) (de_cD (dv 3) (dv 4))) rfl ?_ ⟨_, _, rfl, ?_⟩)
          · rw [pL_len, List.length_append, List.length_append, LVd_len]
            have l3 := LU_len fDn h8 x y k
            omega
          · rw [LVd_succ, ← List.append_assoc]
            exact pL_snoc _ _ _
        · rintro ε' ⟨_, s4, rfl, rfl⟩
          refine ⟨_, _, _, rfl, ?_⟩
          rw [show ((y : Nat) : Int).toNat = y by omega, LVd_full _ _ _ hy]
          unfold LU
          rw [flat_succ, ← List.append_assoc]
      · rintro ε' ⟨_, s3, s4, rfl, rfl⟩
        refine ⟨_, _, _, _, rfl, ?_⟩
        rw [show (((W : Nat) : Int) + 1 - (((x : Nat) : Int) + 1)).toNat = W - x by omega, es]
    · rintro ε' ⟨_, s2, s3, s4, rfl, rfl⟩
      rw [cL_len, LPs_full]
      exact d_one (d_retO 1 rfl rfl)
def R_pairs_of (ds : List Dt) (d : Dt) : Prop := ∃ W H : Nat, ∃ up, W ≤ 8 ∧ H ≤ 8 ∧ ds = [bD W H, .str (hS up)] ∧ d = .lst (pL (prs (fH up) W H))
abbrev FD_pairs_of (T : List (Addr × Str)) (P : Program) (w : World) (K : PySem.W.Frag) (mg : Str → Option Value) (base : Heap) : Prop := FnD T P w K mg base "pairs_of" 3 ["board", "half"] R_pairs_of
theorem f_pairs_of (B : Bi mg) (h : Has K mg "pairs_of" "pairs_of" s_pairs_of) (F_rising_pairs : FD_rising_pairs T P w K mg base) (F_falling_pairs : FD_falling_pairs T P w K mg base) (Q : Ws mg) : FD_pairs_of T P w K mg base := by
  refine fnD_at (N := ["board", "half"]) h ⟨rfl, rfl, rfl, by decide +kernel, rfl, by decide +kernel, by decide +kernel⟩ ?_ ?_
  · intro kV doc pm an cdv ct us hl
    match us, hl with
    | [u0, u1], _ => rfl
  · have nd : (["board", "half"] : List Str).Nodup := by decide +kernel
    rintro f cdv A outer s H E ds d hr hl ⟨W, Hh, up, w8, h8, rfl, rfl⟩
    refine d_cons (d_if (bc := up) ((dt_cmp c_eqS (dv 1) (de_globS (by exact rfl) Q.up) rfl).cast (hS_eq up)) (fun hb => ?_) (fun hb => d_nil ?_))
    · subst hb
      exact d_one (d_retN (dn_call F_rising_pairs hr (da_cons (dv 0) da_nil) ⟨W, Hh, w8, h8, rfl, rfl⟩ (imm_pL _)) rfl)
    · subst hb
      exact d_one (d_retN (dn_call F_falling_pairs hr (da_cons (dv 0) da_nil) ⟨W, Hh, w8, h8, rfl, rfl⟩ (imm_pL _)) rfl)

def R_pairs_by_steps (ds : List Dt) (d : Dt) : Prop := ∃ W H : Nat, ∃ up, W ≤ 8 ∧ H ≤ 8 ∧ ds = [bD W H, .str (hS up)] ∧ d = .lst (pL (sortH up W H))
abbrev FD_pairs_by_steps (T : List (Addr × Str)) (P : Program) (w : World) (K : PySem.W.Frag) (mg : Str → Option Value) (base : Heap) : Prop := FnD T P w K mg base "pairs_by_steps" 5 ["board", "half"] R_pairs_by_steps
theorem f_pairs_by_steps {c0 P0 : Addr} (B : Bi mg) (h : HasC K mg "pairs_by_steps" "pairs_by_steps" s_pairs_by_steps c0) (TB : TabB base mg c0 P0) (hT : (P0, lamQ) ∈ T) (F_pairs_of : FD_pairs_of T P w K mg base) (F_steps_between : FD_steps_between T P w K mg base) : FD_pairs_by_steps T P w K mg base := by
  refine fnD_atC (N := ["board", "half"]) h ⟨rfl, rfl, rfl, by decide +kernel, rfl, by decide +kernel, by decide +kernel⟩ ?_ ?_
  · intro kV doc pm an cdv ct us hl
    match us, hl with
    | [u0, u1], _ => rfl
  · have nd : (["board", "half"] : List Str).Nodup := by decide +kernel
    rintro f A outer s H E ds d hr hl ⟨W, Hh, up, w8, h8, rfl, rfl⟩
    have ll : (prs (fH up) W Hh).length ≤ 100000 := Nat.le_trans (prs_len (fH up) w8 h8) (by decide)
    refine d_one (d_retN (dn_sortedKey (ds := pL (prs (fH up) W Hh)) (kf := kfP) (nm := "pair") (N := ["pair"]) (k := 1) TB rfl (show ("pairs_by_steps" ++ ".<locals>." ++ "<lambda>" : Str) = lamQ by decide +kernel) hT hr B.sorted ?_ (kfP_ok _ ll) (by rw [imm_pL]; rfl) ?_ ?_ ?_ ?_ ?_ ?_) ?_)
    · exact DG.lstW (dn_call F_pairs_of hr (da_cons (dv 0) (da_cons (dv 1) da_nil)) ⟨W, Hh, up, w8, h8, rfl, rfl⟩ (imm_pL _))
    · exact ⟨rfl, rfl, rfl, by decide +kernel, rfl, by decide +kernel, by decide +kernel⟩
    · exact fun _ => rfl
    · decide +kernel
    · rfl
    · exact fun _ _ _ _ => rfl
    intro f' c' s' H' d hd hr'
    · obtain ⟨⟨p, q⟩, _, rfl⟩ := List.mem_map.mp hd
      show DE _ _ [Sl.val (pD p q)] _ (kfP (pD p q))
      rw [kfP_pD]
      exact de_tup (da_cons (de_call F_steps_between hr' (da_cons (de_ixT (d := cD p) (dv 0) de_int rfl) (da_cons (de_ixT (d := cD q) (dv 0) de_int rfl) da_nil)) ⟨p, q, rfl, rfl⟩) (da_cons (dv 0) da_nil))
    · show Dt.lst _ = _
      rw [pL_sort]
end
end Cp
end
section
set_option maxHeartbeats 4000000
namespace Cp
open PySem PySem.Spec PyProof.Rows L2

open PySem.W LamX
theorem bfr_mv (c : Co) (l : Tri.L) : bfr (Tri.mv c l) l = c := by
  cases l <;> (refine Prod.ext ?_ ?_ <;> simp only [bfr, Tri.mv] <;> omega)
theorem half_mem {up : Bool} {W H : Nat} {p q : Co} : (p, q) ∈ prs (fH up) W H ↔ Tri.onB (W : Nat) (H : Nat) p ∧ Tri.onB (W : Nat) (H : Nat) q ∧ p.1 < q.1 ∧ (if up = true then p.2 < q.2 else q.2 < p.2) := by
  rw [prs_mem]
  have e : ∀ (h1 : Tri.onB (W : Nat) (H : Nat) p) (h2 : Tri.onB (W : Nat) (H : Nat) q), (fH up p.2.toNat q.2.toNat = true ↔ (if up = true then p.2 < q.2 else q.2 < p.2)) := fun h1 h2 => by
    unfold Tri.onB at h1 h2
    cases up
    · show (decide _ = true) ↔ _
      rw [decide_eq_true_iff]
      show ((q.2.toNat : Nat) : Int) < ((p.2.toNat : Nat) : Int) ↔ (q.2 < p.2)
      omega
    · show (decide _ = true) ↔ _
      rw [decide_eq_true_iff]
      show ((p.2.toNat : Nat) : Int) < ((q.2.toNat : Nat) : Int) ↔ (p.2 < q.2)
      omega
  constructor
  · rintro ⟨a, b, c, d⟩; exact ⟨a, b, c, (e a b).mp d⟩
  · rintro ⟨a, b, c, d⟩; exact ⟨a, b, c, (e a b).mpr d⟩
theorem half_ne {up : Bool} {W H : Nat} {p q : Co} (h : (p, q) ∈ prs (fH up) W H) : p.2 ≠ q.2 := by
  have := (half_mem.mp h).2.2.2
  split at this <;> omega
theorem half_steep {up : Bool} {W H : Nat} {p q : Co} (h : (p, q) ∈ prs (fH up) W H) : Tri.steepL p q = stL up := by
  have := (half_mem.mp h).2.2.2
  unfold Tri.steepL stL
  cases up
  · rw [if_neg (by decide)] at this; rw [if_neg (by omega), if_neg (by decide)]
  · rw [if_pos rfl] at this; rw [if_pos this, if_pos rfl]
theorem good_half {t : Co → Co → Tri.L} {up : Bool} {W H : Nat} {p q : Co} (c : Tri.Full t W H) (h : (p, q) ∈ prs (fH up) W H) : t p q = .E ∨ t p q = stL up := by
  obtain ⟨a, b, d, _⟩ := half_mem.mp h
  rw [← half_steep h]
  exact (c (Tri.dist p q + 1)).good p q a b d (half_ne h) (by omega)
/-- the next corner's pair lies in the half -/
theorem next_half {t : Co → Co → Tri.L} {up : Bool} {W H : Nat} {p q : Co} (c : Tri.Full t W H) (h : (p, q) ∈ prs (fH up) W H) (h1 : (Tri.mv p (t p q)).2 ≠ q.2) (h2 : (Tri.mv p (t p q)).1 ≠ q.1) :
    (Tri.mv p (t p q), q) ∈ prs (fH up) W H ∧ Tri.dist (Tri.mv p (t p q)) q < Tri.dist p q := by
  obtain ⟨a, b, d, e⟩ := half_mem.mp h
  obtain ⟨s, hs, g1, g2, g3, g4, g5⟩ := Tri.mv_good a b d (half_ne h) (l := t p q) (by rw [half_steep h]; exact good_half c h)
  unfold Tri.Half at g1 g4
  refine ⟨half_mem.mpr ⟨g3, b, by omega, ?_⟩, by omega⟩
  have hz := half_ne h
  cases up
  · rw [if_neg (by decide)] at e ⊢; rcases hs with rfl | rfl <;> omega
  · rw [if_pos rfl] at e ⊢; rcases hs with rfl | rfl <;> omega
/-- the last corner but one -/
theorem end_half {t : Co → Co → Tri.L} {up : Bool} {W H : Nat} {p q : Co} (c : Tri.Full t W H) (h : (p, q) ∈ prs (fH up) W H) (h1 : p.2 ≠ (Tri.sl (Tri.wk t p q)).2) (h2 : p.1 ≠ (Tri.sl (Tri.wk t p q)).1) : (p, Tri.sl (Tri.wk t p q)) ∈ prs (fH up) W H := by
  obtain ⟨a, b, d, e⟩ := half_mem.mp h
  have hz := half_ne h
  obtain ⟨s, hs, Hf⟩ := Tri.half_of (p := p) (q := q) (by omega)
  obtain ⟨_, d1, d2, d3, d4, _⟩ := Tri.wk_drop (c (Tri.dist p q + 1)) hs _ p q rfl a b Hf (by omega) (fun z => hz (by rw [z]))
  unfold Tri.Half at Hf d2
  refine half_mem.mpr ⟨a, d3, by omega, ?_⟩
  cases up
  · rw [if_neg (by decide)] at e ⊢; rcases hs with rfl | rfl <;> omega
  · rw [if_pos rfl] at e ⊢; rcases hs with rfl | rfl <;> omega
theorem bfr_last {t : Co → Co → Tri.L} {up : Bool} {W H : Nat} {p q : Co} (c : Tri.Full t W H) (h : (p, q) ∈ prs (fH up) W H) : bfr q (Tri.lastT t p q) = Tri.sl (Tri.wk t p q) := by
  obtain ⟨a, b, d, e⟩ := half_mem.mp h
  have hz := half_ne h
  obtain ⟨s, hs, Hf⟩ := Tri.half_of (p := p) (q := q) (by omega)
  have := Tri.last_step c hs _ p q rfl a b Hf (fun z => hz (by rw [z]))
  calc bfr q (Tri.lastT t p q) = bfr (Tri.mv (Tri.sl (Tri.wk t p q)) (Tri.lastT t p q)) (Tri.lastT t p q) := by rw [this]
    _ = _ := bfr_mv _ _
theorem cons_half {t : Co → Co → Tri.L} {up : Bool} {W H : Nat} {p q : Co} (c : Tri.Full t W H) (h : (p, q) ∈ prs (fH up) W H) : Tri.fl t p (Tri.sl (Tri.wk t p q)) = t p q := by
  obtain ⟨a, b, d, _⟩ := half_mem.mp h
  exact (c (Tri.dist p q + 1)).cons p q a b d (half_ne h) (by omega)
/-- what has fewer steps stands before -/
theorem ord_take {S : List (Co × Co)} {i : Nat} {x y : Co × Co} (ord : S.Pairwise fun a b => Tri.dist a.1 a.2 ≤ Tri.dist b.1 b.2) (e : S[i]? = some x) (hy : y ∈ S) (h : Tri.dist y.1 y.2 < Tri.dist x.1 x.2) : y ∈ S.take i := by
  obtain ⟨j, hj⟩ := List.getElem?_of_mem hy
  have hj' := List.getElem?_eq_some_iff.mp hj
  have he' := List.getElem?_eq_some_iff.mp e
  have hji : j < i := by
    rcases Nat.lt_trichotomy j i with g | g | g
    · exact g
    · subst g; rw [e] at hj; cases hj; omega
    · exfalso
      have := List.pairwise_iff_getElem.mp ord i j he'.1 hj'.1 g
      rw [he'.2, hj'.2] at this
      omega
  rw [← hj'.2]
  exact List.mem_iff_getElem.mpr ⟨j, by rw [List.length_take]; have := hj'.1; omega, by rw [List.getElem_take]⟩
def gP (l : List (Co × Co)) (i : Nat) : Co × Co := l.getD i ((0, 0), (0, 0))
theorem gP_some {l : List (Co × Co)} {i : Nat} (h : i < l.length) : l[i]? = some (gP l i) := by
  unfold gP
  rw [List.getD_eq_getElem?_getD, List.getElem?_eq_getElem h]; rfl
theorem gP_mem {l : List (Co × Co)} {i : Nat} (h : i < l.length) : gP l i ∈ l := List.mem_of_getElem? (gP_some h)
theorem pL_gP {l : List (Co × Co)} {i : Nat} (h : i < l.length) : (pL l).getD i .non = .tup [cD (gP l i).1, cD (gP l i).2] := pL_get (gP_some h)
theorem putAll_kvT {l : List (Co × Co)} (nd : l.Nodup) (t : Co → Co → Tri.L) : ∀ n, n ≤ l.length → putAll ((List.range n).map fun i => (.tup [cK (gP l i).1, cK (gP l i).2], .str (lS (t (gP l i).1 (gP l i).2)))) = kvT (l.take n) t
  | 0, _ => by simp [putAll, kvT]
  | n + 1, h => by
    rw [List.range_succ, List.map_append, List.map_cons, List.map_nil, putAll_snoc, putAll_kvT nd t n (by omega), List.take_add_one, gP_some (by omega)]
    exact kvT_new (d := t _ _) (nd_take nd (gP_some (by omega))) rfl fun _ _ => rfl
theorem tl_get {t : Co → Co → Tri.L} {l : List (Co × Co)} {i : Nat} (h : i < l.length) : (tl t l).getD i .E = t (gP l i).1 (gP l i).2 := by
  unfold tl gP
  rw [List.getD_eq_getElem?_getD, List.getElem?_map, List.getD_eq_getElem?_getD, List.getElem?_eq_getElem h]; rfl
theorem kvT_imm (l : List (Co × Co)) (t : Co → Co → Tri.L) : ∀ p ∈ kvT l t, p.2.imm = true := fun p hp => by
  obtain ⟨z, _, rfl⟩ := List.mem_map.mp hp
  rfl
def TabH (kvs : List (NK × Dt)) (t : Co → Co → Tri.L) (up : Bool) (W H : Nat) : Prop := ∀ p q, (p, q) ∈ prs (fH up) W H → getD kvs (pK p q) = some (.str (lS (t p q)))
section
variable {T : List (Addr × Str)} {P : Program} {w : World} {K : PySem.W.Frag} {mg : Str → Option Value} {base : Heap}
def R_has_table_form (ds : List Dt) (d : Dt) : Prop := ∃ W H : Nat, ∃ up t, W ≤ 8 ∧ H ≤ 8 ∧ Tri.Full t W H ∧ ds = [bD W H, .str (hS up), .str (lets (tl t (prs (fH up) W H)))] ∧ d = .bl true
abbrev FD_has_table_form (T : List (Addr × Str)) (P : Program) (w : World) (K : PySem.W.Frag) (mg : Str → Option Value) (base : Heap) : Prop := FnD T P w K mg base "has_table_form" 4 ["board", "half", "letters"] R_has_table_form
theorem f_has_table_form (B : Bi mg) (h : Has K mg "has_table_form" "has_table_form" s_has_table_form) (F_pairs_of : FD_pairs_of T P w K mg base) (F_steep_letter : FD_steep_letter T P w K mg base) : FD_has_table_form T P w K mg base := by
  refine fnD_at (N := ["board", "half", "letters", "letter"]) h ⟨rfl, rfl, rfl, by decide +kernel, rfl, by decide +kernel, by decide +kernel⟩ ?_ ?_
  · intro kV doc pm an cdv ct us hl
    match us, hl with
    | [u0, u1, u2], _ => rfl
  · have nd : (["board", "half", "letters", "letter"] : List Str).Nodup := by decide +kernel
    rintro f cdv A outer s H E ds d hr hl ⟨W, Hh, up, t, w8, h8, full, rfl, rfl⟩
    have pl := prs_len (fH up) w8 h8
    refine d_cons (d_ifF ((dt_cmp c_neI (de_lenX B.len (dv 2) (by rw [lets_length, tl_len, sizeLine_eq]; omega)) (de_lenL B.len (dn_call (ds' := pL (prs (fH up) W Hh)) F_pairs_of hr (da_cons (dv 0) (da_cons (dv 1) da_nil)) ⟨W, Hh, up, w8, h8, rfl, rfl⟩ (imm_pL _)).lstW) rfl).cast (by rw [lets_length, tl_len, pL_len]; simp)) (d_nil ?_))
    refine d_cons (d_for (di_str (dv 2)) (fun i hi => tg_name 3 nd) (fun i ε => ∃ s3, ε = [.val (bD W Hh), .val (.str (hS up)), .val (.str (lets (tl t (prs (fH up) W Hh)))), s3]) ⟨_, rfl⟩ ?_ ?_)
    · rintro i ε' hi ⟨s3, rfl⟩
      rw [lets_size, tl_len] at hi
      rw [lets_at _ (by rw [tl_len]; exact hi), tl_get hi]
      have g : t (gP (prs (fH up) W Hh) i).1 (gP (prs (fH up) W Hh) i).2 = .E ∨ t (gP (prs (fH up) W Hh) i).1 (gP (prs (fH up) W Hh) i).2 = stL up := good_half full (gP_mem hi)
      generalize t (gP (prs (fH up) W Hh) i).1 (gP (prs (fH up) W Hh) i).2 = x at g
      refine d_one (d_ifF ((dt_cmp (c_ninTP (d1 := .str (lS x)) (ds := [.str "E", .str (lS (stL up))]) (u65 hr) rfl rfl (by cases x <;> decide +kernel) (by cases up <;> decide +kernel)) (dv 3) (de_tup (da_cons de_str (da_cons (de_call F_steep_letter hr (da_cons (dv 1) da_nil) ⟨up, rfl, rfl⟩) da_nil))) rfl).cast ?_) (d_nil ⟨_, rfl⟩))
      rcases g with rfl | rfl
      · cases up <;> decide +kernel
      · cases up <;> decide +kernel
    · rintro ε' ⟨s3, rfl⟩
      exact d_one (d_ret de_bl rfl)
def R_letters_by_pair (ds : List Dt) (d : Dt) : Prop := ∃ W H : Nat, ∃ up t, W ≤ 8 ∧ H ≤ 8 ∧ ds = [bD W H, .str (hS up), .str (lets (tl t (prs (fH up) W H)))] ∧ d = .dic (kvT (prs (fH up) W H) t)
abbrev FD_letters_by_pair (T : List (Addr × Str)) (P : Program) (w : World) (K : PySem.W.Frag) (mg : Str → Option Value) (base : Heap) : Prop := FnD T P w K mg base "letters_by_pair" 4 ["board", "half", "letters"] R_letters_by_pair
theorem f_letters_by_pair (B : Bi mg) (h : Has K mg "letters_by_pair" "letters_by_pair" s_letters_by_pair) (F_pairs_of : FD_pairs_of T P w K mg base) : FD_letters_by_pair T P w K mg base := by
  refine fnD_at (N := ["board", "half", "letters", "pair", "letter"]) h ⟨rfl, rfl, rfl, by decide +kernel, rfl, by decide +kernel, by decide +kernel⟩ ?_ ?_
  · intro kV doc pm an cdv ct us hl
    match us, hl with
    | [u0, u1, u2], _ => rfl
  · have nd : (["board", "half", "letters", "pair", "letter"] : List Str).Nodup := by decide +kernel
    rintro f cdv A outer s H E ds d hr hl ⟨W, Hh, up, t, w8, h8, rfl, rfl⟩
    have pl := prs_len (fH up) w8 h8
    refine d_one (d_retD (dd_dc (own := [("pair", 3), ("letter", 4)]) (js := [3] ++ ([4] ++ [])) (f := fun i ε => (ε.set 3 (.val (pD (gP (prs (fH up) W Hh) i).1 (gP (prs (fH up) W Hh) i).2))).set 4 (.val (.str (lS (t (gP (prs (fH up) W Hh) i).1 (gP (prs (fH up) W Hh) i).2))))) (fun i => [cK (gP (prs (fH up) W Hh) i).1, cK (gP (prs (fH up) W Hh) i).2]) (fun i => .str (lS (t (gP (prs (fH up) W Hh) i).1 (gP (prs (fH up) W Hh) i).2))) (u9 hr)
      (di_zipS (ds := pL (prs (fH up) W Hh)) B.zip (DG.lst (dn_call F_pairs_of hr (da_cons (dv 0) (da_cons (dv 1) da_nil)) ⟨W, Hh, up, w8, h8, rfl, rfl⟩ (imm_pL _))) (dv 2) (by rw [lets_size, tl_len, pL_len])) nd (blkOk_by rfl) ?_ (by decide) (fun i hi _ _ _ _ _ => dv 3) (fun i hi _ _ _ _ _ => dv 4) (fun i hi => Nat.le_of_ble_eq_true rfl) (fun i hi => rfl) (by rw [pL_len]; omega)) ?_)
    · intro i hi s' H' C cl fp
      rw [pL_len] at hi
      rw [pL_gP hi, lets_at _ (by rw [tl_len]; exact hi), tl_get hi]
      exact tg_two 3 4 nd rfl
    · show Dt.dic _ = _
      rw [pL_len, putAll_kvT (prs_nodup _ _ _) t _ (Nat.le_refl _), List.take_length]
def R_last_letters (ds : List Dt) (d : Dt) : Prop := ∃ W H : Nat, ∃ up t kvs, W ≤ 8 ∧ H ≤ 8 ∧ Tri.Full t W H ∧ TabH kvs t up W H ∧ ds = [bD W H, .str (hS up), .dic kvs] ∧ d = .dic (kvT (sortH up W H) (Tri.lastT t))
abbrev FD_last_letters (T : List (Addr × Str)) (P : Program) (w : World) (K : PySem.W.Frag) (mg : Str → Option Value) (base : Heap) : Prop := FnD T P w K mg base "last_letters" 6 ["board", "half", "table"] R_last_letters
theorem f_last_letters (B : Bi mg) (h : Has K mg "last_letters" "last_letters" s_last_letters) (F_pairs_by_steps : FD_pairs_by_steps T P w K mg base) (F_first_letter : FD_first_letter T P w K mg base) (F_moved : FD_moved T P w K mg base) : FD_last_letters T P w K mg base := by
  refine fnD_at (N := ["board", "half", "table", "lasts", "p", "q"]) h ⟨rfl, rfl, rfl, by decide +kernel, rfl, by decide +kernel, by decide +kernel⟩ ?_ ?_
  · intro kV doc pm an cdv ct us hl
    match us, hl with
    | [u0, u1, u2], _ => rfl
  · have nd : (["board", "half", "table", "lasts", "p", "q"] : List Str).Nodup := by decide +kernel
    rintro f cdv A outer s H E ds d hr hl ⟨W, Hh, up, t, kvs, w8, h8, full, tab, rfl, rfl⟩
    have sl8 := sortH_len up w8 h8
    refine d_cons (d_setD 3 nd dd_new ?_)
    refine d_cons (d_for (di_list (ds := pL (sortH up W Hh)) (DG.lst (dn_call F_pairs_by_steps hr (da_cons (dv 0) (da_cons (dv 1) da_nil)) ⟨W, Hh, up, w8, h8, rfl, rfl⟩ (imm_pL _)))) (js := [4] ++ ([5] ++ [])) (f := fun i ε => (ε.set 4 (.val (cD (gP (sortH up W Hh) i).1))).set 5 (.val (cD (gP (sortH up W Hh) i).2))) ?_ (fun i ε => ∃ kv s4 s5, ε = [.val (bD W Hh), .val (.str (hS up)), .val (.dic kvs), .od kv, s4, s5] ∧ kv = kvT ((sortH up W Hh).take i) (Tri.lastT t)) ⟨_, _, _, rfl, rfl⟩ ?_ ?_)
    · intro i hi
      rw [pL_len] at hi
      rw [pL_gP hi]
      exact tg_two 4 5 nd rfl
    · rintro i ε' hi ⟨_, s4, s5, rfl, rfl⟩
      rw [pL_len] at hi
      have em := gP_some hi
      generalize gP (sortH up W Hh) i = pq at em
      obtain ⟨p, q⟩ := pq
      have hm : (p, q) ∈ prs (fH up) W Hh := sortH_mem.mp (List.mem_of_getElem? em)
      have hb := half_mem.mp hm
      refine d_one (d_put 3 [cK p, cK q] (u9 hr) rfl (de_pD (dv 4) (dv 5)) (de_call (d := .str (lS (Tri.fl (Tri.lastT t) (Tri.mv p (t p q)) q))) F_first_letter hr (da_cons (dv 3) (da_cons (de_call (d := cD (Tri.mv p (t p q))) F_moved hr (da_cons (dv 4) (da_cons (de_gp (d := .str (lS (t p q))) (u9 hr) (dv 2) (de_pD (dv 4) (dv 5)) (tab p q hm)) da_nil)) ⟨p, t p q, rfl, rfl⟩) (da_cons (dv 5) da_nil))) ⟨_, Tri.lastT t, Tri.mv p (t p q), q, fun h1 h2 => ?_, rfl, rfl⟩) rfl ?_ ⟨_, _, _, rfl, ?_⟩)
      · obtain ⟨g1, g2⟩ := next_half full hm h1 h2
        exact kvT_get (ord_take (sortH_ord up W Hh) em (sortH_mem.mpr g1) g2)
      · rw [kvT_len]; have := List.length_take_le i (sortH up W Hh); omega
      · rw [List.take_add_one, em]
        exact kvT_new (d := Tri.fl (Tri.lastT t) (Tri.mv p (t p q)) q) (nd_take (sortH_nodup up W Hh) em) (Tri.last_next full hb.1 hb.2.1 hb.2.2.1 (half_ne hm)).symm fun _ _ => rfl
    · rintro ε' ⟨_, s4, s5, rfl, rfl⟩
      rw [pL_len, List.take_length]
      exact d_one (d_retOD 3 rfl rfl)
def R_find_broken_pair (ds : List Dt) (d : Dt) : Prop := ∃ W H : Nat, ∃ up t, W ≤ 8 ∧ H ≤ 8 ∧ Tri.Full t W H ∧ ds = [bD W H, .str (hS up), .str (lets (tl t (prs (fH up) W H)))] ∧ d = .non
abbrev FD_find_broken_pair (T : List (Addr × Str)) (P : Program) (w : World) (K : PySem.W.Frag) (mg : Str → Option Value) (base : Heap) : Prop := FnD T P w K mg base "find_broken_pair" 7 ["board", "half", "letters"] R_find_broken_pair
theorem f_find_broken_pair (B : Bi mg) (h : Has K mg "find_broken_pair" "find_broken_pair" s_find_broken_pair) (F_letters_by_pair : FD_letters_by_pair T P w K mg base) (F_last_letters : FD_last_letters T P w K mg base) (F_pairs_by_steps : FD_pairs_by_steps T P w K mg base) (F_first_letter : FD_first_letter T P w K mg base) (F_before : FD_before T P w K mg base) : FD_find_broken_pair T P w K mg base := by
  refine fnD_at (N := ["board", "half", "letters", "table", "lasts", "p", "q", "end"]) h ⟨rfl, rfl, rfl, by decide +kernel, rfl, by decide +kernel, by decide +kernel⟩ ?_ ?_
  · intro kV doc pm an cdv ct us hl
    match us, hl with
    | [u0, u1, u2], _ => rfl
  · have nd : (["board", "half", "letters", "table", "lasts", "p", "q", "end"] : List Str).Nodup := by decide +kernel
    rintro f cdv A outer s H E ds d hr hl ⟨W, Hh, up, t, w8, h8, full, rfl, rfl⟩
    have sl8 := sortH_len up w8 h8
    refine d_cons (d_set 3 nd (DG.dic (dd_call (kvs := kvT (prs (fH up) W Hh) t) F_letters_by_pair hr (da_cons (dv 0) (da_cons (dv 1) (da_cons (dv 2) da_nil))) ⟨W, Hh, up, t, w8, h8, rfl, rfl⟩ (kvT_imm _ _))) ?_)
    refine d_cons (d_set 4 nd (DG.dic (dd_call (kvs := kvT (sortH up W Hh) (Tri.lastT t)) F_last_letters hr (da_cons (dv 0) (da_cons (dv 1) (da_cons (dv 3) da_nil))) ⟨W, Hh, up, t, _, w8, h8, full, fun p q h => kvT_get h, rfl, rfl⟩ (kvT_imm _ _))) ?_)
    refine d_cons (d_for (di_list (ds := pL (sortH up W Hh)) (DG.lst (dn_call F_pairs_by_steps hr (da_cons (dv 0) (da_cons (dv 1) da_nil)) ⟨W, Hh, up, w8, h8, rfl, rfl⟩ (imm_pL _)))) (js := [5] ++ ([6] ++ [])) (f := fun i ε => (ε.set 5 (.val (cD (gP (sortH up W Hh) i).1))).set 6 (.val (cD (gP (sortH up W Hh) i).2))) ?_ (fun i ε => ∃ s5 s6 s7, ε = [.val (bD W Hh), .val (.str (hS up)), .val (.str (lets (tl t (prs (fH up) W Hh)))), .val (.dic (kvT (prs (fH up) W Hh) t)), .val (.dic (kvT (sortH up W Hh) (Tri.lastT t))), s5, s6, s7]) ⟨_, _, _, rfl⟩ ?_ ?_)
    · intro i hi
      rw [pL_len] at hi
      rw [pL_gP hi]
      exact tg_two 5 6 nd rfl
    · rintro i ε' hi ⟨s5, s6, s7, rfl⟩
      rw [pL_len] at hi
      have em := gP_some hi
      generalize gP (sortH up W Hh) i = pq at em
      obtain ⟨p, q⟩ := pq
      have hs := List.mem_of_getElem? em
      have hm : (p, q) ∈ prs (fH up) W Hh := sortH_mem.mp hs
      refine d_cons (d_set 7 nd (DG.strong (de_call (d := cD (bfr q (Tri.lastT t p q))) F_before hr (da_cons (dv 6) (da_cons (de_gp (d := .str (lS (Tri.lastT t p q))) (u9 hr) (dv 4) (de_pD (dv 5) (dv 6)) (kvT_get hs)) da_nil)) ⟨q, Tri.lastT t p q, rfl, rfl⟩) rfl) ?_)
      rw [bfr_last full hm]
      refine d_one (d_ifF ((dt_cmp c_neS (de_call (d := .str (lS (Tri.fl t p (Tri.sl (Tri.wk t p q))))) F_first_letter hr (da_cons (dv 3) (da_cons (dv 5) (da_cons (dv 7) da_nil))) ⟨_, t, p, _, fun h1 h2 => kvT_get (end_half full hm h1 h2), rfl, rfl⟩) (de_gp (d := .str (lS (t p q))) (u9 hr) (dv 3) (de_pD (dv 5) (dv 6)) (kvT_get hm)) rfl).cast ?_) (d_nil ⟨_, _, _, rfl⟩))
      rw [cons_half full hm]
      simp
    · rintro ε' ⟨s5, s6, s7, rfl⟩
      exact d_one (d_ret de_non rfl)
end
end Cp
end
section
set_option maxHeartbeats 4000000
namespace Cp
open PySem PySem.Spec PyProof.Rows L2

open PySem.W LamX
/-- a method -/
structure HasM (K : PySem.W.Frag) (C : Addr) (m qual : Str) (st : Stmt) : Prop where
  cls : Cls K C
  ok : ∃ f fd, FnP K m qual st f fd ∧ Meth K C m f
/-- the constructor -/
structure HasI (K : PySem.W.Frag) (C : Addr) (qual : Str) (st : Stmt) : Prop where
  ok : ∃ f fd, FnP K "__init__" qual st f fd ∧ Mk K C f
/-- a property -/
structure HasP (K : PySem.W.Frag) (C : Addr) (m qual : Str) (st : Stmt) : Prop where
  cls : Cls K C
  ok : ∃ q g fd, FnP K m qual st g fd ∧ PropOf K C m q g
section
variable {T : List (Addr × Str)} {P : Program} {w : World} {K : PySem.W.Frag} {mg : Str → Option Value} {base : Heap} {C : Addr}
theorem fnM_at {x qual : Str} {st : Stmt} {N ps : List Str} {k : Nat} {R : List Dt → Dt → Prop} (h : HasM K C x qual st) (S : FnScope N ps (defScope st))
    (hp : ∀ (kV doc pm : Value) (an : Option Addr) (cdv ct : Value) (us : List Value), us.length = ps.length → bindArgs (PySem.W.fnOf x qual (defArgs st) (defBody st) (defScope st) .none kV doc pm an cdv ct) ⟨us, []⟩ = pure (ps.zip us))
    (hb : ∀ (f : Addr) (cdv : Value) (A : Around) (outer : List Env) (s : Shared) (H : Hp) (E : XK) (ds : List Dt) (d : Dt), Room k (A.deeper (envOfC qual (defScope st) s.heap.objs.size f cdv)) → ds.length = ps.length → R ds d →
      DSs T (bodyX P w K mg base N qual st f cdv A outer s H E) (ds.map .val ++ List.replicate (N.length - ps.length) .no) (defBody st) (endP d)) : FnM T P w K mg base C x (k + 1) ps R := by
  obtain ⟨f, fd, F, hm⟩ := h.ok
  exact ⟨h.cls, f, fd, fn_body F S k R (hb f), hm, F.bindsN hp⟩
theorem fnG_at {x qual : Str} {st : Stmt} {N ps : List Str} {k : Nat} {R : List Dt → Dt → Prop} (h : HasP K C x qual st) (S : FnScope N ps (defScope st))
    (hp : ∀ (kV doc pm : Value) (an : Option Addr) (cdv ct : Value) (us : List Value), us.length = ps.length → bindArgs (PySem.W.fnOf x qual (defArgs st) (defBody st) (defScope st) .none kV doc pm an cdv ct) ⟨us, []⟩ = pure (ps.zip us))
    (hb : ∀ (f : Addr) (cdv : Value) (A : Around) (outer : List Env) (s : Shared) (H : Hp) (E : XK) (ds : List Dt) (d : Dt), Room k (A.deeper (envOfC qual (defScope st) s.heap.objs.size f cdv)) → ds.length = ps.length → R ds d →
      DSs T (bodyX P w K mg base N qual st f cdv A outer s H E) (ds.map .val ++ List.replicate (N.length - ps.length) .no) (defBody st) (endP d)) : FnG T P w K mg base C x (k + 1) ps R := by
  obtain ⟨q, f, fd, F, hm⟩ := h.ok
  exact ⟨h.cls, q, f, fd, fn_body F S k R (hb f), hm, F.bindsN hp⟩
theorem fnI_at {qual : Str} {st : Stmt} {N ps : List Str} {k : Nat} {R : List Dt → List (Str × Dt) → Prop} (h : HasI K C qual st) (S : FnScope N ps (defScope st))
    (hp : ∀ (kV doc pm : Value) (an : Option Addr) (cdv ct : Value) (us : List Value), us.length = ps.length → bindArgs (PySem.W.fnOf "__init__" qual (defArgs st) (defBody st) (defScope st) .none kV doc pm an cdv ct) ⟨us, []⟩ = pure (ps.zip us))
    (hb : ∀ (f : Addr) (cdv : Value) (A : Around) (outer : List Env) (s : Shared) (H : Hp) (E : XK) (x : Addr) (ds : List Dt) (fs : List (Str × Dt)), Room k (A.deeper (envOfC qual (defScope st) s.heap.objs.size f cdv)) → ds.length + 1 = ps.length → R ds fs →
      DSs T (bodyX P w K mg base N qual st f cdv A outer s H E) (.oo x C [] :: (ds.map .val ++ List.replicate (N.length - ps.length) .no)) (defBody st) (endI x C fs)) : FnI T P w K mg base C (k + 1) ps R := by
  obtain ⟨f, fd, F, hm⟩ := h.ok
  exact ⟨f, fd, fn_bodyI F S k C R (hb f), hm, F.bindsN hp⟩
end
/-- the plane's class and its fields -/
structure PlC (K : PySem.W.Frag) (C : Addr) : Prop where
  cls : Cls K C
  nb : NoAttr K C "board"
  nr : NoAttr K C "rising"
  nf : NoAttr K C "falling"
  nl : NoAttr K C "letters"
def plF (W H : Nat) (a b : Str) (kvs : List (NK × Dt)) : List (Str × Dt) := [("board", bD W H), ("rising", .str a), ("falling", .str b), ("letters", .dic kvs)]
def plD (C : Addr) (W H : Nat) (a b : Str) (kvs : List (NK × Dt)) : Dt := .obj C (plF W H a b kvs)
/-- the plane's letters: both halves -/
def plK (t : Co → Co → Tri.L) (W H : Nat) : List (NK × Dt) := putKs (kvT (prs fUp W H) t) (kvT (prs fDn W H) t)
theorem putKs_app {t : Co → Co → Tri.L} {l : List (Co × Co)} : ∀ (m : List (Co × Co)), (∀ z ∈ m, z ∉ l) → m.Nodup → putKs (kvT l t) (kvT m t) = kvT (l ++ m) t := by
  intro m
  induction m generalizing l with
  | nil => intro _ _; simp [putKs, kvT]
  | cons z m ih =>
    intro h n
    rw [List.nodup_cons] at n
    have e : putKs (kvT l t) (kvT (z :: m) t) = putKs (putD (kvT l t) (pK z.1 z.2) (.str (lS (t z.1 z.2)))) (kvT m t) := rfl
    rw [e, kvT_new (t' := t) (h z (by simp)) rfl (fun _ _ => rfl), ih (fun y hy hm => ?_) n.2, List.append_assoc]
    · rfl
    · rcases List.mem_append.mp hm with q | q
      · exact h y (by simp [hy]) q
      · have : y = z := by simpa using q
        subst this; exact n.1 hy
theorem plK_eq (t : Co → Co → Tri.L) (W H : Nat) : plK t W H = kvT (prs fUp W H ++ prs fDn W H) t := by
  refine putKs_app _ (fun z hz hm => ?_) (prs_nodup _ _ _)
  obtain ⟨p, q⟩ := z
  have h1 := (half_mem (up := false).mp hz).2.2.2
  have h2 := (half_mem (up := true).mp hm).2.2.2
  rw [if_neg (by decide)] at h1
  rw [if_pos rfl] at h2
  omega
theorem plK_tab {t : Co → Co → Tri.L} {W H : Nat} (full : Tri.Full t W H) (w8 : W ≤ 8) (h8 : H ≤ 8) : Tab (plK t W H) t W H where
  tab := fun p q a b c d => by
    rw [plK_eq]
    refine kvT_get (List.mem_append.mpr ?_)
    by_cases h : p.2 < q.2
    · exact .inl (half_mem (up := true).mpr ⟨a, b, c, by rw [if_pos rfl]; exact h⟩)
    · exact .inr (half_mem (up := false).mpr ⟨a, b, c, by rw [if_neg (by decide)]; omega⟩)
  full := full
  w8 := w8
  h8 := h8
section
variable {T : List (Addr × Str)} {P : Program} {w : World} {K : PySem.W.Frag} {mg : Str → Option Value} {base : Heap}

def R_Plane_init (ds : List Dt) (fs : List (Str × Dt)) : Prop := ∃ W H : Nat, ∃ t, W ≤ 8 ∧ H ≤ 8 ∧ Tri.Full t W H ∧ ds = [bD W H, .str (lets (tl t (prs fUp W H))), .str (lets (tl t (prs fDn W H)))] ∧ fs = plF W H (lets (tl t (prs fUp W H))) (lets (tl t (prs fDn W H))) (plK t W H)
abbrev FD_Plane_init (T : List (Addr × Str)) (P : Program) (w : World) (K : PySem.W.Frag) (mg : Str → Option Value) (base : Heap) (C : Addr) : Prop := FnI T P w K mg base C 8 ["self", "board", "rising", "falling"] R_Plane_init
theorem f_Plane_init {C : Addr} (B : Bi mg) (Q : Ws mg) (hC : PlC K C) (h : HasI K C "Plane.__init__" s_Plane_init) (F_has_table_form : FD_has_table_form T P w K mg base) (F_find_broken_pair : FD_find_broken_pair T P w K mg base) (F_letters_by_pair : FD_letters_by_pair T P w K mg base) : FD_Plane_init T P w K mg base C := by
  refine fnI_at (N := ["self", "board", "rising", "falling", "halves", "half", "letters", "pair", "falls"]) h ⟨rfl, rfl, rfl, by decide +kernel, rfl, by decide +kernel, by decide +kernel⟩ ?_ ?_
  · intro kV doc pm an cdv ct us hl
    match us, hl with
    | [u0, u1, u2, u3], _ => rfl
  · have nd : (["self", "board", "rising", "falling", "halves", "half", "letters", "pair", "falls"] : List Str).Nodup := by decide +kernel
    rintro f cdv A outer s H E x ds fs hr hl ⟨W, Hh, t, w8, h8, full, rfl, rfl⟩
    generalize ea : lets (tl t (prs fUp W Hh)) = za
    generalize eb : lets (tl t (prs fDn W Hh)) = zb
    have hz : ∀ up, (if up = true then za else zb) = lets (tl t (prs (fH up) W Hh)) := fun up => by
      cases up
      · exact eb.symm
      · exact ea.symm
    have item : ∀ i, i < 2 → [Dt.tup [.str "rising", .str za], Dt.tup [.str "falling", .str zb]].getD i .non = .tup [.str (hS (decide (i = 0))), .str (lets (tl t (prs (fH (decide (i = 0))) W Hh)))] := fun i hi => by
      rw [← hz]
      match i, hi with
      | 0, _ => rfl
      | 1, _ => rfl
    refine d_cons (d_set 4 nd (DG.lst (dn_lst (ds := [.tup [.str "rising", .str za], .tup [.str "falling", .str zb]]) (da_cons (de_tup (da_cons (de_globS (by exact rfl) Q.up) (da_cons (dv 2) da_nil))) (da_cons (de_tup (da_cons (de_globS (by exact rfl) Q.dn) (da_cons (dv 3) da_nil))) da_nil)) rfl)) ?_)
    refine d_cons (d_for (di_list (bv 4)) (js := [5] ++ ([6] ++ [])) (f := fun i ε => (ε.set 5 (.val (.str (hS (decide (i = 0)))))).set 6 (.val (.str (lets (tl t (prs (fH (decide (i = 0))) W Hh)))))) (fun i hi => by rw [item i hi]; exact tg_two 5 6 nd rfl) (fun i ε => ∃ s5 s6, s5.own = false ∧ s6.own = false ∧ ε = [.oo x C [], .val (bD W Hh), .val (.str za), .val (.str zb), .val (.lst [.tup [.str "rising", .str za], .tup [.str "falling", .str zb]]), s5, s6, .no, .no]) ⟨_, _, rfl, rfl, rfl⟩ ?_ ?_)
    · rintro i ε' hi ⟨s5, s6, n5, n6, rfl⟩
      exact d_one (d_ifF ((dt_not (dt_val (de_call F_has_table_form hr (da_cons (dv 1) (da_cons (dv 5) (da_cons (dv 6) da_nil))) ⟨W, Hh, _, t, w8, h8, full, rfl, rfl⟩))).cast rfl) (d_nil ⟨_, _, rfl, rfl, rfl⟩))
    rintro ε' ⟨s5, s6, n5, n6, rfl⟩
    refine d_cons (d_for (di_list (bv 4)) (js := [5] ++ ([6] ++ [])) (f := fun i ε => (ε.set 5 (.val (.str (hS (decide (i = 0)))))).set 6 (.val (.str (lets (tl t (prs (fH (decide (i = 0))) W Hh)))))) (fun i hi => by rw [item i hi]; exact tg_two 5 6 nd rfl) (fun i ε => ∃ s5 s6 s7, s5.own = false ∧ s6.own = false ∧ s7.own = false ∧ ε = [.oo x C [], .val (bD W Hh), .val (.str za), .val (.str zb), .val (.lst [.tup [.str "rising", .str za], .tup [.str "falling", .str zb]]), s5, s6, s7, .no]) ⟨_, _, _, n5, n6, rfl, rfl⟩ ?_ ?_)
    · rintro i ε' hi ⟨s5, s6, s7, n5, n6, n7, rfl⟩
      refine d_cons (d_set 7 nd (DG.strong (de_call (d := .non) F_find_broken_pair hr (da_cons (dv 1) (da_cons (dv 5) (da_cons (dv 6) da_nil))) ⟨W, Hh, _, t, w8, h8, full, rfl, rfl⟩) rfl) ?_)
      exact d_one (d_ifF ((dt_cmp c_notN (dv 7) de_non rfl).cast rfl) (d_nil ⟨_, _, _, rfl, rfl, rfl, rfl⟩))
    rintro ε' ⟨s5, s6, s7, n5, n6, n7, rfl⟩
    refine d_cons (d_setF 0 rfl hC.cls hC.nb (DG.strong (de_cD (de_c0 (dv 1) de_int) (de_c1 (dv 1) de_int)) rfl) (Nat.le_of_ble_eq_true rfl) ?_)
    refine d_cons (d_setF 0 rfl hC.cls hC.nr (DG.strong (dv 2) rfl) (Nat.le_of_ble_eq_true rfl) ?_)
    refine d_cons (d_setF 0 rfl hC.cls hC.nf (DG.strong (dv 3) rfl) (Nat.le_of_ble_eq_true rfl) ?_)
    have pu := prs_len fUp w8 h8
    have pd := prs_len fDn w8 h8
    refine d_last3 (ε := [.val (bD W Hh), .val (.str za), .val (.str zb), .val (.lst [.tup [.str "rising", .str za], .tup [.str "falling", .str zb]]), s5, s6, s7, .no]) (fi := 8) (pi := 7) (kvs1 := kvT (prs fUp W Hh) t) (kvs2 := kvT (prs fDn W Hh) t) (u9 hr) hC.cls hC.nl nd ?_ ?_ ?_ (kvT_imm _ _) ?_ ?_ ?_ (by decide) (by decide) (by decide) (Nat.le_of_ble_eq_true rfl) (Nat.le_of_ble_eq_true rfl) ?_
    · have g : ∀ (d1 d2 d3 d4 : Dt) (x5 x6 x7 : Sl), noOwn [.val d1, .val d2, .val d3, .val d4, x5, x6, x7, .no] = (!x5.own && (!x6.own && (!x7.own && true))) := fun _ _ _ _ _ _ _ => rfl
      rw [g, n5, n6, n7]; rfl
    · exact dd_call F_letters_by_pair hr (da_cons (dv 1) (da_cons (de_globS (by exact rfl) Q.up) (da_cons (dv 2) da_nil))) ⟨W, Hh, true, t, w8, h8, by rw [← ea]; rfl, rfl⟩ (kvT_imm _ _)
    · exact dd_call F_letters_by_pair hr (da_cons (dv 1) (da_cons (de_globS (by exact rfl) Q.dn) (da_cons (dv 3) da_nil))) ⟨W, Hh, false, t, w8, h8, by rw [← eb]; rfl, rfl⟩ (kvT_imm _ _)
    · intro p hp
      obtain ⟨z, _, rfl⟩ := List.mem_map.mp hp
      exact ⟨_, rfl⟩
    · rw [kvT_len, kvT_len]; omega
    · exact Nat.le_of_ble_eq_true rfl
    · rfl
def R_Plane_letter (C : Addr) (ds : List Dt) (d : Dt) : Prop := ∃ W H a b kvs t p q, TabAt kvs t p q ∧ ds = [plD C W H a b kvs, cD p, cD q] ∧ d = .str (lS (Tri.fl t p q))
abbrev FD_Plane_letter (T : List (Addr × Str)) (P : Program) (w : World) (K : PySem.W.Frag) (mg : Str → Option Value) (base : Heap) (C : Addr) : Prop := FnM T P w K mg base C "letter" 2 ["self", "p", "q"] (R_Plane_letter C)
theorem f_Plane_letter {C : Addr} (B : Bi mg) (h : HasM K C "letter" "Plane.letter" s_Plane_letter) (F_first_letter : FD_first_letter T P w K mg base) (hC : PlC K C) : FD_Plane_letter T P w K mg base C := by
  refine fnM_at (N := ["self", "p", "q"]) h ⟨rfl, rfl, rfl, by decide +kernel, rfl, by decide +kernel, by decide +kernel⟩ ?_ ?_
  · intro kV doc pm an cdv ct us hl
    match us, hl with
    | [u0, u1, u2], _ => rfl
  · have nd : (["self", "p", "q"] : List Str).Nodup := by decide +kernel
    rintro f cdv A outer s H E ds d hr hl ⟨W, Hh, a, b, kvs, t, p, q, tab, rfl, rfl⟩
    exact d_one (d_ret (de_call F_first_letter hr (da_cons (de_fld hC.cls hC.nl (dv 0) rfl) (da_cons (dv 1) (da_cons (dv 2) da_nil))) ⟨kvs, t, p, q, tab, rfl, rfl⟩) rfl)
def R_Plane_walked (C : Addr) (ds : List Dt) (d : Dt) : Prop := ∃ W H a b kvs t p q, Tab kvs t W H ∧ Tri.onB (W : Nat) (H : Nat) p ∧ Tri.onB (W : Nat) (H : Nat) q ∧ p.1 ≤ q.1 ∧ ds = [plD C W H a b kvs, cD p, cD q] ∧ d = .lst (cL (Tri.wk t p q))
abbrev FD_Plane_walked (T : List (Addr × Str)) (P : Program) (w : World) (K : PySem.W.Frag) (mg : Str → Option Value) (base : Heap) (C : Addr) : Prop := FnM T P w K mg base C "walked" 3 ["self", "p", "q"] (R_Plane_walked C)
theorem f_Plane_walked {C : Addr} (B : Bi mg) (h : HasM K C "walked" "Plane.walked" s_Plane_walked) (F_moved : FD_moved T P w K mg base) (F_Plane_letter : FD_Plane_letter T P w K mg base C) : FD_Plane_walked T P w K mg base C := by
  refine fnM_at (N := ["self", "p", "q", "row"]) h ⟨rfl, rfl, rfl, by decide +kernel, rfl, by decide +kernel, by decide +kernel⟩ ?_ ?_
  · intro kV doc pm an cdv ct us hl
    match us, hl with
    | [u0, u1, u2], _ => rfl
  · have nd : (["self", "p", "q", "row"] : List Str).Nodup := by decide +kernel
    rintro f cdv A outer s H E ds d hr hl ⟨W, Hh, a, b, kvs, t, p, q, tab, hp, hq, hpq, rfl, rfl⟩
    obtain ⟨sg, hs, Hf⟩ := Tri.half_of hpq
    have cn := fun n => tab.full n
    refine d_cons (d_setO 3 nd (dn_lst (da_cons (dv 1) da_nil) rfl) ?_)
    refine d_cons (d_while (fun m ε => ∃ xs pre c, ε = [.val (plD C W Hh a b kvs), .val (cD p), .val (cD q), .ol xs] ∧ xs = cL (pre ++ [c]) ∧ Tri.onB (W : Nat) (Hh : Nat) c ∧ Tri.Half sg c q ∧ Tri.dist c q = m ∧ pre.length + m ≤ 16 ∧ pre ++ Tri.wk t c q = Tri.wk t p q) (Tri.dist p q) ⟨_, [], p, rfl, rfl, hp, Hf, rfl, by have := dist_le tab.w8 tab.h8 hp hq; simpa using this, rfl⟩ ?_)
    rintro m ε' ⟨_, pre, c, rfl, rfl, hc, hf, hd, hn, hw⟩
    have at1 : atI (cL (pre ++ [c])) (-1) = some (cD c) := by
      unfold atI ixN
      rw [cL_len, if_neg (by decide), if_pos (by simp; omega)]
      have e2 : ((-1 : Int) + ((pre ++ [c]).length : Int)).toNat = pre.length := by
        rw [List.length_append]
        show ((-1 : Int) + ((pre.length + 1 : Nat) : Int)).toNat = _
        omega
      show (cL (pre ++ [c]))[((-1 : Int) + ((pre ++ [c]).length : Int)).toNat]? = _
      rw [e2]
      unfold cL
      simp
    refine ⟨_, dt_cmp (c_neC (u64 hr)) (de_ixL (dv 3) (de_neg de_int) at1) (dv 2) rfl, fun hb => ?_, fun hb => ?_⟩
    · have hne : c ≠ q := by simpa using hb
      obtain ⟨g1, g2, g3, g4⟩ := Tri.step (cn (Tri.dist c q + 1)) hs hc hq hf (by omega) hne
      have e1 := Tri.wk_step (cn (Tri.dist c q + 1)) hs hc hq hf (by omega) hne
      refine d_one (d_app 3 rfl (de_call (d := cD (Tri.mv c (Tri.fl t c q))) F_moved hr (da_cons (de_ixL (dv 3) (de_neg de_int) at1) (da_cons (de_meth F_Plane_letter hr (dv 0) rfl (da_cons (de_ixL (dv 3) (de_neg de_int) at1) (da_cons (dv 2) da_nil)) ⟨W, Hh, a, b, kvs, t, c, q, tab.at hc hq (Tri.half_cases hs hf |>.elim (fun z => z.2.1) fun z => z.2.1), rfl, rfl⟩) da_nil)) ⟨c, _, rfl, rfl⟩) rfl ?_ ⟨Tri.dist (Tri.mv c (Tri.fl t c q)) q, by omega, _, pre ++ [c], Tri.mv c (Tri.fl t c q), rfl, cL_snoc _ _, g2, g3, rfl, ?_, ?_⟩)
      · rw [cL_len]; simp; omega
      · simp; omega
      · rw [List.append_assoc, ← hw, e1]; rfl
    · have hne : c = q := by simpa using hb
      subst hne
      refine d_one (d_retO 3 rfl ?_)
      show Dt.lst _ = _
      rw [← hw, Tri.wk_self]
def R_Plane_line (C : Addr) (ds : List Dt) (d : Dt) : Prop := ∃ W H a b kvs t u v, Tab kvs t W H ∧ Tri.onB (W : Nat) (H : Nat) u ∧ Tri.onB (W : Nat) (H : Nat) v ∧ ds = [plD C W H a b kvs, cD u, cD v] ∧ d = .lst (cL (Tri.ln t u v))
abbrev FD_Plane_line (T : List (Addr × Str)) (P : Program) (w : World) (K : PySem.W.Frag) (mg : Str → Option Value) (base : Heap) (C : Addr) : Prop := FnM T P w K mg base C "line" 4 ["self", "p", "q"] (R_Plane_line C)
theorem f_Plane_line {C : Addr} (B : Bi mg) (h : HasM K C "line" "Plane.line" s_Plane_line) (F_on_board : FD_on_board T P w K mg base) (F_Plane_walked : FD_Plane_walked T P w K mg base C) (hC : PlC K C) : FD_Plane_line T P w K mg base C := by
  refine fnM_at (N := ["self", "p", "q", "corner"]) h ⟨rfl, rfl, rfl, by decide +kernel, rfl, by decide +kernel, by decide +kernel⟩ ?_ ?_
  · intro kV doc pm an cdv ct us hl
    match us, hl with
    | [u0, u1, u2], _ => rfl
  · have nd : (["self", "p", "q", "corner"] : List Str).Nodup := by decide +kernel
    rintro f cdv A outer s H E ds d hr hl ⟨W, Hh, a, b, kvs, t, u, v, tab, hu, hv, rfl, rfl⟩
    refine d_cons (d_for (di_list (ds := cL [u, v]) (DG.lst (dn_lst (da_cons (dv 1) (da_cons (dv 2) da_nil)) rfl))) (fun i hi => tg_name 3 nd) (fun i ε => ∃ s3, ε = [.val (plD C W Hh a b kvs), .val (cD u), .val (cD v), s3]) ⟨_, rfl⟩ ?_ ?_)
    · rintro i ε' hi ⟨s3, rfl⟩
      rw [cL_len] at hi
      rw [cL_get hi]
      have hm : ([u, v] : List Co).getD i (0, 0) ∈ [u, v] := gC_mem hi
      have ho : Tri.onB (W : Nat) (Hh : Nat) (([u, v] : List Co).getD i (0, 0)) := by
        have : ([u, v] : List Co).getD i (0, 0) = u ∨ ([u, v] : List Co).getD i (0, 0) = v := by simpa using hm
        rcases this with e | e <;> rw [e] <;> assumption
      exact d_one (d_ifF ((dt_not (dt_val (de_call F_on_board hr (da_cons (de_fld hC.cls hC.nb (dv 0) rfl) (da_cons (dv 3) da_nil)) ⟨W, Hh, _, ho, rfl, rfl⟩))).cast rfl) (d_nil ⟨_, rfl⟩))
    · rintro ε' ⟨s3, rfl⟩
      refine d_cons (d_if (dt_cmp (c_ltC hr.units0) (dv 2) (dv 1) rfl) (fun hb => ?_) (fun hb => d_nil ?_))
      · have hb : Tri.lt v u := by simpa using hb
        refine d_one (d_retN (dn_rev (dn_meth (ds' := cL (Tri.wk t v u)) F_Plane_walked hr (dv 0) rfl (da_cons (dv 2) (da_cons (dv 1) da_nil)) ⟨W, Hh, a, b, kvs, t, v, u, tab, hv, hu, by unfold Tri.lt at hb; omega, rfl, rfl⟩ (imm_cL _)).lstW (imm_cL _)) ?_)
        show Dt.lst _ = _
        unfold Tri.ln
        rw [if_pos hb]
        unfold cL
        rw [List.map_reverse]
      · have hb : ¬ Tri.lt v u := by simpa using hb
        refine d_one (d_retN (dn_meth (ds' := cL (Tri.wk t u v)) F_Plane_walked hr (dv 0) rfl (da_cons (dv 1) (da_cons (dv 2) da_nil)) ⟨W, Hh, a, b, kvs, t, u, v, tab, hu, hv, by unfold Tri.lt at hb; omega, rfl, rfl⟩ (imm_cL _)) ?_)
        show Dt.lst _ = _
        unfold Tri.ln
        rw [if_neg hb]
end
end Cp
end
section
set_option maxHeartbeats 4000000
namespace Cp
open PySem PySem.Spec PyProof.Rows L2
/-! ### sums -/
def sumZ : List Int → Int
  | [] => 0
  | a :: l => a + sumZ l
theorem sumZ_app : ∀ l m : List Int, sumZ (l ++ m) = sumZ l + sumZ m
  | [], m => by simp [sumZ]
  | a :: l, m => by rw [List.cons_append]; simp only [sumZ]; rw [sumZ_app l m]; omega
theorem sumZ_perm {l m : List Int} (h : l.Perm m) : sumZ l = sumZ m := by
  induction h with
  | nil => rfl
  | cons x _ ih => simp only [sumZ]; rw [ih]
  | swap x y l => simp only [sumZ]; omega
  | trans _ _ h1 h2 => rw [h1, h2]
theorem sumZ_filter {α : Type} {f : α → Int} {b : α → Bool} : ∀ {l : List α}, (∀ x ∈ l, b x = false → f x = 0) → sumZ ((l.filter b).map f) = sumZ (l.map f)
  | [], _ => rfl
  | a :: l, h => by
    have ih := sumZ_filter (f := f) (b := b) (l := l) fun x hx => h x (by simp [hx])
    by_cases q : b a = true
    · rw [List.filter_cons, if_pos q, List.map_cons, List.map_cons]; simp only [sumZ]; rw [ih]
    · rw [List.filter_cons, if_neg q, List.map_cons]; simp only [sumZ]
      rw [ih, h a (by simp) (by simpa using q)]; omega
theorem sumZ_congr {α : Type} {f g : α → Int} {l : List α} (h : ∀ x ∈ l, f x = g x) : sumZ (l.map f) = sumZ (l.map g) := by rw [List.map_congr_left h]
theorem sumZ_upd {α : Type} {f g : α → Int} {x : α} : ∀ {l : List α}, l.Nodup → x ∈ l → (∀ y ∈ l, y ≠ x → g y = f y) → sumZ (l.map g) = sumZ (l.map f) + (g x - f x)
  | [], _, h, _ => by cases h
  | a :: l, nd, h, k => by
    rw [List.nodup_cons] at nd
    simp only [List.map_cons, sumZ]
    by_cases e : a = x
    · subst e
      have : sumZ (l.map g) = sumZ (l.map f) := sumZ_congr fun y hy => k y (by simp [hy]) fun z => nd.1 (by rw [← z]; exact hy)
      omega
    · have hx : x ∈ l := (List.mem_cons.mp h).resolve_left fun z => e z.symm
      have := sumZ_upd nd.2 hx fun y hy => k y (by simp [hy])
      have := k a (by simp) e
      omega
theorem sumZ_ne {α : Type} {f : α → Int} : ∀ {l : List α}, sumZ (l.map f) ≠ 0 → ∃ x ∈ l, f x ≠ 0
  | [], h => absurd rfl h
  | a :: l, h => by
    by_cases e : f a = 0
    · simp only [List.map_cons, sumZ] at h
      obtain ⟨x, h1, h2⟩ := sumZ_ne (f := f) (l := l) (by omega)
      exact ⟨x, by simp [h1], h2⟩
    · exact ⟨a, by simp, e⟩

/-! ### dicts from keys to numbers -/
section
variable {α : Type} [DecidableEq α] {key : α → NK}
def kvG (key : α → NK) (l : List α) (f : α → Int) : List (NK × Dt) := l.map fun z => (key z, .int (f z))
theorem kvG_get (inj : ∀ a b, key a = key b → a = b) {l : List α} {f : α → Int} {z : α} (h : z ∈ l) : getD (kvG key l f) (key z) = some (.int (f z)) := by
  unfold getD kvG
  induction l with
  | nil => cases h
  | cons a g ih =>
    rw [List.map_cons]
    by_cases e : a = z
    · subst e; simp [List.find?_cons]
    · have : ¬ key a = key z := fun q => e (inj _ _ q)
      rw [List.find?_cons, decide_eq_false this]
      exact ih ((List.mem_cons.mp h).resolve_left (fun q => e q.symm))
theorem kvG_none (inj : ∀ a b, key a = key b → a = b) {l : List α} {f : α → Int} {z : α} (h : z ∉ l) : getD (kvG key l f) (key z) = none := by
  unfold getD kvG
  induction l with
  | nil => rfl
  | cons a g ih =>
    rw [List.mem_cons, not_or] at h
    rw [List.map_cons, List.find?_cons, decide_eq_false (fun q => h.1 (inj _ _ q).symm)]
    exact ih h.2
theorem kvG_put (inj : ∀ a b, key a = key b → a = b) {l : List α} {f : α → Int} {z : α} (v : Int) (h : z ∈ l) : putD (kvG key l f) (key z) (.int v) = kvG key l (fun x => if x = z then v else f x) := by
  unfold putD
  rw [kvG_get inj h, if_pos (by rfl : (some _).isSome = true)]
  unfold kvG
  rw [List.map_map]
  refine List.map_congr_left fun x _ => ?_
  show (if key x = key z then (key x, Dt.int v) else (key x, Dt.int (f x))) = (key x, Dt.int (if x = z then v else f x))
  by_cases e : x = z
  · rw [if_pos (by rw [e]), if_pos e]
  · rw [if_neg (fun q => e (inj _ _ q)), if_neg e]
theorem kvG_new (inj : ∀ a b, key a = key b → a = b) {l : List α} {f g : α → Int} {z : α} {v : Int} (h : z ∉ l) (hv : v = g z) (hg : ∀ x ∈ l, f x = g x) : putD (kvG key l f) (key z) (.int v) = kvG key (l ++ [z]) g := by
  unfold putD
  rw [kvG_none inj h, if_neg (by decide), hv]
  unfold kvG
  rw [List.map_append, List.map_congr_left fun x hx => by rw [hg x hx]]; rfl
/-- one more number at a key, old or new -/
def addK (l : List α) (z : α) : List α := if z ∈ l then l else l ++ [z]
theorem addK_mem {l : List α} {z x : α} : x ∈ addK l z ↔ x ∈ l ∨ x = z := by
  unfold addK
  split
  · rename_i h
    constructor
    · exact .inl
    · rintro (q | rfl)
      · exact q
      · exact h
  · rw [List.mem_append]; simp
theorem addK_nodup {l : List α} {z : α} (n : l.Nodup) : (addK l z).Nodup := by
  unfold addK
  split
  · exact n
  · rename_i h
    rw [List.nodup_append]
    exact ⟨n, by simp, fun a ha b hb e => h (by
      have q : b = z := by simpa using hb
      rw [← q, ← e]; exact ha)⟩
theorem addK_len {l : List α} {z : α} : (addK l z).length ≤ l.length + 1 := by
  unfold addK
  split
  · omega
  · simp
theorem kvG_add (inj : ∀ a b, key a = key b → a = b) {l : List α} {f : α → Int} {z : α} {n : Int} (h0 : z ∉ l → f z = 0) : ((getD (kvG key l f) (key z)).getD (.int 0)) = .int (f z) ∧ putD (kvG key l f) (key z) (.int (f z + n)) = kvG key (addK l z) (fun x => f x + if x = z then n else 0) := by
  by_cases h : z ∈ l
  · refine ⟨by rw [kvG_get inj h]; rfl, ?_⟩
    rw [kvG_put inj _ h]
    unfold addK
    rw [if_pos h]
    unfold kvG
    refine List.map_congr_left fun x _ => ?_
    show (key x, Dt.int (if x = z then f z + n else f x)) = (key x, Dt.int (f x + if x = z then n else 0))
    by_cases e : x = z
    · rw [if_pos e, if_pos e, e]
    · rw [if_neg e, if_neg e]; simp
  · refine ⟨by rw [kvG_none inj h, h0 h]; rfl, ?_⟩
    unfold addK
    rw [if_neg h]
    refine kvG_new inj h (by simp) fun x hx => ?_
    have : x ≠ z := fun e => h (by rw [← e]; exact hx)
    simp [this]
theorem kvG_len (l : List α) (f : α → Int) : (kvG key l f).length = l.length := by unfold kvG; simp
end
/-! ### net steps -/
def normS (s : Co × Co) : Co × Co := if Tri.lt s.1 s.2 then s else (s.2, s.1)
def sgS (s : Co × Co) : Int := if Tri.lt s.1 s.2 then 1 else -1
def keysF (S : List (Co × Co)) : List (Co × Co) := S.foldl (fun K s => addK K (normS s)) []
def netF (S : List (Co × Co)) (k : Co × Co) : Int := S.foldl (fun n s => n + if k = normS s then sgS s else 0) 0
theorem keysF_snoc (S : List (Co × Co)) (s : Co × Co) : keysF (S ++ [s]) = addK (keysF S) (normS s) := by unfold keysF; rw [List.foldl_append]; rfl
theorem netF_snoc (S : List (Co × Co)) (s k : Co × Co) : netF (S ++ [s]) k = netF S k + if k = normS s then sgS s else 0 := by unfold netF; rw [List.foldl_append]; rfl
theorem rev_ind {α : Type} {P : List α → Prop} (h0 : P []) (h1 : ∀ l a, P l → P (l ++ [a])) (l : List α) : P l := by
  have : ∀ n, ∀ l : List α, l.length = n → P l := by
    intro n
    induction n with
    | zero => intro l e; rw [List.length_eq_zero_iff.mp e]; exact h0
    | succ n ih =>
      intro l e
      have hne : l ≠ [] := fun z => by rw [z] at e; simp at e
      rw [← List.dropLast_concat_getLast hne]
      exact h1 _ _ (ih _ (by rw [List.length_dropLast]; omega))
  exact this _ l rfl
theorem keysF_nodup (S : List (Co × Co)) : (keysF S).Nodup := rev_ind (P := fun S => (keysF S).Nodup) (by exact List.nodup_nil) (fun l a h => by rw [keysF_snoc]; exact addK_nodup h) S
theorem keysF_len (S : List (Co × Co)) : (keysF S).length ≤ S.length := rev_ind (P := fun S => (keysF S).length ≤ S.length) (by simp [keysF]) (fun l a h => by rw [keysF_snoc]; have := addK_len (l := keysF l) (z := normS a); simp; omega) S
theorem netF_zero (S : List (Co × Co)) : ∀ k, k ∉ keysF S → netF S k = 0 := rev_ind (P := fun S => ∀ k, k ∉ keysF S → netF S k = 0) (fun _ _ => rfl) (fun l a h k hk => by
  rw [keysF_snoc, addK_mem, not_or] at hk
  rw [netF_snoc, h k hk.1, if_neg hk.2]; rfl) S
theorem keysF_mem0 (S : List (Co × Co)) : ∀ k, k ∈ keysF S → ∃ s ∈ S, k = normS s := by
  refine rev_ind (P := fun S => ∀ k, k ∈ keysF S → ∃ s ∈ S, k = normS s) (fun k h => by cases h) (fun l a h k hk => ?_) S
  rw [keysF_snoc, addK_mem] at hk
  rcases hk with hk | hk
  · obtain ⟨s, h1, h2⟩ := h k hk
    exact ⟨s, by simp [h1], h2⟩
  · exact ⟨a, by simp, hk⟩
theorem keysF_mem {S : List (Co × Co)} {k : Co × Co} (h : k ∈ keysF S) : ∃ s ∈ S, k = normS s := keysF_mem0 S k h
/-- what the edge k counts for the cell z -/
def gz (z : Co) (k : Co × Co) (n : Int) : Int := if k.1.1 = k.2.1 ∧ z.1 < k.1.1 ∧ z.2 = k.1.2 then n else 0
theorem gz_add (z : Co) (k : Co × Co) (m n : Int) : gz z k (m + n) = gz z k m + gz z k n := by unfold gz; split <;> omega
theorem gz_zero (z : Co) (k : Co × Co) : gz z k 0 = 0 := by unfold gz; split <;> rfl
theorem net_sum (z : Co) (S : List (Co × Co)) : sumZ ((keysF S).map fun k => gz z k (netF S k)) = sumZ (S.map fun s => gz z (normS s) (sgS s)) := by
  refine rev_ind (P := fun S => sumZ ((keysF S).map fun k => gz z k (netF S k)) = sumZ (S.map fun s => gz z (normS s) (sgS s))) rfl (fun S a ih => ?_) S
  rw [List.map_append, sumZ_app, ← ih, keysF_snoc]
  have e1 : sumZ ([a].map fun s => gz z (normS s) (sgS s)) = gz z (normS a) (sgS a) := by simp [sumZ]
  rw [e1]
  by_cases h : normS a ∈ keysF S
  · have : addK (keysF S) (normS a) = keysF S := by unfold addK; rw [if_pos h]
    rw [this, sumZ_upd (f := fun k => gz z k (netF S k)) (keysF_nodup S) h (fun y _ hy => by show gz z y (netF (S ++ [a]) y) = _; rw [netF_snoc, if_neg hy, Int.add_zero])]
    show _ + (gz z (normS a) (netF (S ++ [a]) (normS a)) - _) = _
    rw [netF_snoc, if_pos rfl, gz_add]
    omega
  · have : addK (keysF S) (normS a) = keysF S ++ [normS a] := by unfold addK; rw [if_neg h]
    rw [this, List.map_append, sumZ_app]
    congr 1
    · exact sumZ_congr fun y hy => by rw [netF_snoc, if_neg (fun e => h (by rw [← e]; exact hy)), Int.add_zero]
    · simp only [List.map_cons, List.map_nil, sumZ]
      rw [netF_snoc, if_pos rfl, netF_zero S _ h]; simp
theorem om_gz {a b z : Co} (h : Tri.adjC a b) : Tri.om a b z = gz z (normS (a, b)) (sgS (a, b)) := by
  unfold Tri.adjC at h
  unfold Tri.om gz normS sgS
  by_cases l : Tri.lt a b
  · rw [if_pos l, if_pos l]
    unfold Tri.lt at l
    simp only
    split <;> split <;> omega
  · rw [if_neg l, if_neg l]
    unfold Tri.lt at l
    simp only
    split <;> split <;> omega
/-- the steps of a closed walk -/
def stepsF (l : List Co) : List (Co × Co) := if l.length = 1 then [] else (List.range l.length).map fun k => (gC l k, gC l ((k + 1) % l.length))
theorem windK_sum {l : List Co} (z : Co) (h : ∀ k, k < l.length → Tri.adjC (gC l k) (gC l ((k + 1) % l.length))) : ∀ n, n ≤ l.length → windK l z n = sumZ (((List.range n).map fun k => (gC l k, gC l ((k + 1) % l.length))).map fun s => gz z (normS s) (sgS s))
  | 0, _ => rfl
  | n + 1, hn => by
    rw [List.range_succ, List.map_append, List.map_append, sumZ_app, ← windK_sum z h n (by omega)]
    show windK l z n + Tri.om _ _ z = _
    rw [om_gz (h n (by omega))]
    simp [sumZ]
theorem windF_sum {l : List Co} (z : Co) (h : l.length ≠ 1 → ∀ k, k < l.length → Tri.adjC (gC l k) (gC l ((k + 1) % l.length))) : windF l z = sumZ ((stepsF l).map fun s => gz z (normS s) (sgS s)) := by
  unfold stepsF
  by_cases e : l.length = 1
  · rw [if_pos e]
    match l, e with
    | [a], _ =>
      show windK [a] z 0 + Tri.om (gC [a] 0) (gC [a] ((0 + 1) % 1)) z = 0
      show 0 + Tri.om a a z = 0
      unfold Tri.om
      split <;> omega
  · rw [if_neg e]
    exact windK_sum z (h e) _ (Nat.le_refl _)
/-- the winding numbers told by the closed list -/
theorem windK_W {l : List Co} (z : Co) : ∀ n, n < l.length → windK l z n = Tri.W ((l.take (n + 1))) z
  | 0, h => by
    match l, h with
    | a :: l, _ => simp [windK, Tri.W]
  | n + 1, h => by
    have e : l.take (n + 1 + 1) = l.take n ++ gC l n :: [gC l (n + 1)] := by
      rw [take_snoc (d := ((0, 0) : Co)) h, take_snoc (d := ((0, 0) : Co)) (show n < l.length by omega)]
      simp [gC]
    have e2 : l.take (n + 1) = l.take n ++ [gC l n] := take_snoc (show n < l.length by omega)
    have ih := windK_W (l := l) z n (by omega)
    rw [e, Tri.W_app, ← e2, ← ih]
    show windK l z n + Tri.om _ _ z = _
    rw [Nat.mod_eq_of_lt h]
    simp [Tri.W]
theorem windF_W {l : List Co} (z : Co) (hl : l ≠ []) : windF l z = Tri.W (l ++ [gC l 0]) z := by
  obtain ⟨n, hn⟩ : ∃ n, l.length = n + 1 := ⟨l.length - 1, by have := List.length_pos_iff.mpr hl; omega⟩
  unfold windF
  rw [hn]
  show windK l z n + Tri.om (gC l n) (gC l ((n + 1) % l.length)) z = _
  have e2 : l.take (n + 1) = l.take n ++ [gC l n] := take_snoc (show n < l.length by omega)
  have e3 : l = l.take n ++ [gC l n] := by rw [← e2, ← hn, List.take_length]
  rw [windK_W z n (by omega), hn, Nat.mod_self]
  have e4 : l ++ [gC l 0] = l.take n ++ gC l n :: [gC l 0] := by
    have : l ++ [gC l 0] = (l.take n ++ [gC l n]) ++ [gC l 0] := by rw [← e3]
    rw [this]; simp
  rw [e4, Tri.W_app, ← e2]
  simp [Tri.W]
theorem adjL_at : ∀ {l : List Co} {k : Nat}, Tri.adjL l → k + 1 < l.length → Tri.adjC (gC l k) (gC l (k + 1))
  | [], k, _, h => by simp at h
  | [a], k, _, h => by simp at h
  | a :: b :: l, 0, hl, _ => hl.1
  | a :: b :: l, k + 1, hl, h => adjL_at (l := b :: l) (k := k) hl.2 (by simpa using h)
theorem closed_adj {l : List Co} (h : Tri.adjL (l ++ [gC l 0])) {k : Nat} (hk : k < l.length) : Tri.adjC (gC l k) (gC l ((k + 1) % l.length)) := by
  have := adjL_at (k := k) h (by simp; omega)
  have e1 : gC (l ++ [gC l 0]) k = gC l k := by
    unfold gC
    rw [List.getD_eq_getElem?_getD, List.getElem?_append_left hk, ← List.getD_eq_getElem?_getD]
  rw [e1] at this
  by_cases q : k + 1 < l.length
  · have e2 : gC (l ++ [gC l 0]) (k + 1) = gC l (k + 1) := by
      show (l ++ [gC l 0]).getD (k + 1) (0, 0) = _
      rw [List.getD_eq_getElem?_getD, List.getElem?_append_left q, ← List.getD_eq_getElem?_getD]; rfl
    rw [e2] at this
    rw [Nat.mod_eq_of_lt q]; exact this
  · have e : k + 1 = l.length := by omega
    have e2 : gC (l ++ [gC l 0]) (k + 1) = gC l 0 := by
      show (l ++ [gC l 0]).getD (k + 1) (0, 0) = _
      rw [e, List.getD_eq_getElem?_getD, List.getElem?_append_right (Nat.le_refl _)]; simp
    rw [e2] at this
    rw [e, Nat.mod_self]; exact this
end Cp
end
section
set_option maxHeartbeats 4000000
namespace Cp
open PySem PySem.Spec PyProof.Rows L2

open PySem.W LamX
/-! ### a dict's entries without zeros -/
def leG {α : Type} (key : α → List NK) (a b : α) : Bool := dle (kd (.tup (key a))) (kd (.tup (key b)))
def wzF {α : Type} (key : α → List NK) (l : List α) (f : α → Int) : List Dt := ((l.mergeSort (leG key)).filter fun z => !decide (f z = 0)).map fun z => .tup [kd (.tup (key z)), .int (f z)]
theorem outs_opt {α : Type} (b : α → Bool) (g : α → Dt) (L : List α) : outs (fun i => (L[i]?).any b) (fun i => (L[i]?).elim .non g) L.length = (L.filter b).map g := by
  refine rev_ind (P := fun L => outs (fun i => (L[i]?).any b) (fun i => (L[i]?).elim .non g) L.length = (L.filter b).map g) rfl (fun L a ih => ?_) L
  rw [List.length_append]
  show outs _ _ (L.length + 1) = _
  rw [outs_succ, List.filter_append, List.map_append, ← ih]
  congr 1
  · unfold outs
    have e1 : (List.range L.length).filter (fun i => ((L ++ [a])[i]?).any b) = (List.range L.length).filter (fun i => (L[i]?).any b) := List.filter_congr fun i hi => by rw [List.getElem?_append_left (List.mem_range.mp hi)]
    rw [e1]
    exact List.map_congr_left fun i hi => by rw [List.getElem?_append_left (List.mem_range.mp (List.mem_filter.mp hi).1)]
  · have e2 : (L ++ [a])[L.length]? = some a := by simp
    simp only [e2]
    show (if b a = true then [g a] else []) = _
    by_cases q : b a = true
    · rw [if_pos q, List.filter_cons, if_pos q]; rfl
    · rw [if_neg q, List.filter_cons, if_neg q]; rfl
def R_without_zeros (ds : List Dt) (d : Dt) : Prop := ∃ (α : Type) (_ : DecidableEq α) (key : α → List NK) (l : List α) (f : α → Int), (∀ a b, NestedKey.tup (key a) = .tup (key b) → a = b) ∧ (∀ a, (NestedKey.tup (key a)).depth ≤ 8) ∧ (∀ a, (kd (.tup (key a))).nolst = true) ∧ SortOk (l.map fun z => kd (.tup (key z))) ∧
  ds = [.dic (kvG (fun z => .tup (key z)) l f)] ∧ d = .lst (wzF key l f)
def kP (k : Co × Co) : List NK := [cK k.1, cK k.2]
def kC (c : Co) : List NK := [.num c.1, .num c.2]
theorem kP_inj (a b : Co × Co) (h : NestedKey.tup (kP a) = .tup (kP b)) : a = b := Prod.ext (pK_inj h).1 (pK_inj h).2
theorem kC_inj (a b : Co) (h : NestedKey.tup (kC a) = .tup (kC b)) : a = b := cK_inj h
theorem srtP_ok (l : List (Co × Co)) (h : l.length ≤ 100000) : SortOk (l.map fun z => kd (.tup (kP z))) where
  pl := plAll_map (f := fun z => kd (.tup (kP z))) (fun _ => rfl) l
  al := by
    rw [List.map_map]
    exact AllAlike.of (enc := fun p => py (pairD p)) fun a b => by
      show alike (.tuple [.tuple [.int _, .int _], .tuple [.int _, .int _]]) (.tuple [.tuple [.int _, .int _], .tuple [.int _, .int _]]) = true
      simp [alike, alikeAll]
  st := by
    rw [List.map_map]
    exact Sortable.tuples (enc := fun p => py (pairD p)) fun a => ⟨_, _, rfl⟩
  dp := fun d hd => by
    obtain ⟨a, _, rfl⟩ := List.mem_map.mp hd
    show 2 ≤ 20; omega
  len := by rw [List.length_map]; exact h
theorem srtC_ok (l : List Co) (h : l.length ≤ 100000) : SortOk (l.map fun z => kd (.tup (kC z))) where
  pl := plAll_map (f := fun z => kd (.tup (kC z))) (fun _ => rfl) l
  al := by
    rw [List.map_map]
    exact AllAlike.of (enc := fun p => py (cD p)) fun a b => by
      show alike (.tuple [.int _, .int _]) (.tuple [.int _, .int _]) = true
      simp [alike, alikeAll]
  st := by
    rw [List.map_map]
    exact Sortable.tuples (enc := fun p => py (cD p)) fun a => ⟨_, _, rfl⟩
  dp := fun d hd => by
    obtain ⟨a, _, rfl⟩ := List.mem_map.mp hd
    show 1 ≤ 20; omega
  len := by rw [List.length_map]; exact h
section
variable {T : List (Addr × Str)} {P : Program} {w : World} {K : PySem.W.Frag} {mg : Str → Option Value} {base : Heap}
def R_closed_walk (C : Addr) (ds : List Dt) (d : Dt) : Prop := ∃ W H a b kvs t chain, Tab kvs t W H ∧ chain ≠ [] ∧ chain.length < 1000 ∧ (∀ x ∈ chain, Tri.onB (W : Nat) (H : Nat) x) ∧ ds = [plD C W H a b kvs, .lst (cL chain)] ∧ d = .lst (cL (cwF t chain))
abbrev FD_closed_walk (T : List (Addr × Str)) (P : Program) (w : World) (K : PySem.W.Frag) (mg : Str → Option Value) (base : Heap) (C : Addr) : Prop := FnD T P w K mg base "closed_walk" 5 ["plane", "chain"] (R_closed_walk C)
theorem f_closed_walk {C : Addr} (B : Bi mg) (h : Has K mg "closed_walk" "closed_walk" s_closed_walk) (F_Plane_line : FD_Plane_line T P w K mg base C) : FD_closed_walk T P w K mg base C := by
  refine fnD_at (N := ["plane", "chain", "corners", "walk", "at", "corner", "following"]) h ⟨rfl, rfl, rfl, by decide +kernel, rfl, by decide +kernel, by decide +kernel⟩ ?_ ?_
  · intro kV doc pm an cdv ct us hl
    match us, hl with
    | [u0, u1], _ => rfl
  · have nd : (["plane", "chain", "corners", "walk", "at", "corner", "following"] : List Str).Nodup := by decide +kernel
    rintro f cdv A outer s H E ds d hr hl ⟨W, Hh, a, b, kvs, t, chain, tab, hne, hl2, hon, rfl, rfl⟩
    have h0 : 0 < chain.length := List.length_pos_iff.mpr hne
    refine d_cons (d_set 2 nd (DG.lst (dn_listOf (ds := cL chain) B.list (dv 1) (.inl rfl) (by rw [imm_cL]; rfl))) ?_)
    refine d_cons (d_setO 3 nd (dn_lst da_nil rfl) ?_)
    refine d_cons (d_for (di_enum B.enumerate (bv 2)) (js := [4] ++ ([5] ++ [])) (f := fun i ε => (ε.set 4 (.val (.int (i : Nat)))).set 5 (.val (cD (gC chain i)))) ?_ (fun i ε => ∃ xs s4 s5 s6, ε = [.val (plD C W Hh a b kvs), .val (.lst (cL chain)), .val (.lst (cL chain)), .ol xs, s4, s5, s6] ∧ xs = cL (cwP t chain i)) ⟨_, _, _, _, rfl, rfl⟩ ?_ ?_)
    · intro i hi
      rw [cL_len] at hi
      rw [cL_get hi]
      exact tg_two 4 5 nd rfl
    · rintro i ε' hi ⟨_, s4, s5, s6, rfl, rfl⟩
      rw [cL_len] at hi
      have hm : (i + 1) % chain.length < chain.length := Nat.mod_lt _ h0
      have e3 := cwP_succ t chain i
      refine d_cons (d_set 6 nd (DG.strong (de_ixL (d := cD (gC chain ((i + 1) % chain.length))) (i := (((i : Nat) : Int) + 1) % ((chain.length : Nat) : Int)) (dv 2) ((de_mod (de_add (dv 4) de_int) (de_lenL B.len (dv 2)) (by rw [cL_len]; omega)).cast (by rw [cL_len])) (by rw [show (((i : Nat) : Int) + 1) % ((chain.length : Nat) : Int) = (((i + 1) % chain.length : Nat) : Int) by rw [Int.natCast_emod]; rfl]; exact cL_at hm)) rfl) ?_)
      refine d_one (d_ext 3 rfl (dn_upto (dn_meth (ds' := cL (Tri.ln t (gC chain i) (gC chain ((i + 1) % chain.length)))) F_Plane_line hr (dv 0) rfl (da_cons (dv 5) (da_cons (dv 6) da_nil)) ⟨W, Hh, a, b, kvs, t, _, _, tab, hon _ (gC_mem hi), hon _ (gC_mem hm), rfl, rfl⟩ (imm_cL _)).lstW (de_neg de_int) (imm_cL _)).lstW ?_ ?_ ⟨_, _, _, _, rfl, ?_⟩)
      · rw [cut_init]; exact imm_cL _
      · rw [cut_init, cL_len, cL_len]
        have := cwP_len tab.full tab.w8 tab.h8 hon (i + 1) hi
        rw [e3, List.length_append] at this
        omega
      · rw [cut_init, cL_app, e3]
    · rintro ε' ⟨_, s4, s5, s6, rfl, rfl⟩
      rw [cL_len]
      refine d_cons (d_if (dt_cmp c_eqI (de_lenL B.len (dv 3)) de_int rfl) (fun hb => ?_) (fun hb => d_nil ?_))
      · have hb : cwP t chain chain.length = [] := by
          have hb : (((cL (cwP t chain chain.length)).length : Nat) : Int) = 0 := by simpa using hb
          rw [cL_len] at hb
          exact List.length_eq_zero_iff.mp (by omega)
        rw [hb]
        refine d_one (d_app 3 rfl (de_ixL (d := cD (gC chain 0)) (dv 2) de_int (cL_at h0)) rfl (by decide) ?_)
        refine d_one (d_retO 3 rfl ?_)
        show Dt.lst (cL [gC chain 0]) = _
        unfold cwF
        rw [if_pos hb]
      · refine d_one (d_retO 3 rfl ?_)
        show Dt.lst _ = _
        have hb : ¬ cwP t chain chain.length = [] := fun q => by rw [q] at hb; simp [cL] at hb
        unfold cwF
        rw [if_neg hb]
def R_steps_of (ds : List Dt) (d : Dt) : Prop := ∃ l, l ≠ [] ∧ l.length < 1000 ∧ ds = [.lst (cL l)] ∧ d = .lst (pL (stepsF l))
abbrev FD_steps_of (T : List (Addr × Str)) (P : Program) (w : World) (K : PySem.W.Frag) (mg : Str → Option Value) (base : Heap) : Prop := FnD T P w K mg base "steps_of" 1 ["walk"] R_steps_of
theorem f_steps_of (B : Bi mg) (h : Has K mg "steps_of" "steps_of" s_steps_of) : FD_steps_of T P w K mg base := by
  refine fnD_at (N := ["walk", "at", "corner"]) h ⟨rfl, rfl, rfl, by decide +kernel, rfl, by decide +kernel, by decide +kernel⟩ ?_ ?_
  · intro kV doc pm an cdv ct us hl
    match us, hl with
    | [u0], _ => rfl
  · have nd : (["walk", "at", "corner"] : List Str).Nodup := by decide +kernel
    rintro f cdv A outer s H E ds d hr hl ⟨l, hne, hl2, rfl, rfl⟩
    have h0 : 0 < l.length := List.length_pos_iff.mpr hne
    refine d_cons (d_if (dt_cmp c_eqI (de_lenL B.len (dv 0)) de_int rfl) (fun hb => ?_) (fun hb => d_nil ?_))
    · have hb : l.length = 1 := by
        have hb : (((cL l).length : Nat) : Int) = 1 := by simpa using hb
        rw [cL_len] at hb; omega
      refine d_one (d_retN (dn_lst da_nil rfl) ?_)
      show Dt.lst _ = _
      unfold stepsF
      rw [if_pos hb]; rfl
    · have hb : ¬ l.length = 1 := fun q => by
        have hb : ¬ (((cL l).length : Nat) : Int) = 1 := by simpa using hb
        rw [cL_len] at hb; omega
      refine d_one (d_retN (dn_lc (own := [("at", 1), ("corner", 2)]) (js := [1] ++ ([2] ++ [])) (f := fun i ε => (ε.set 1 (.val (.int (i : Nat)))).set 2 (.val (cD (gC l i)))) (fun _ => true) (fun i => pD (gC l i) (gC l ((i + 1) % l.length))) _ (di_enum B.enumerate (bv 0)) nd (blkOk_by rfl) ?_ (by decide) (fun i hi _ _ _ _ _ => dts_nil) ?_ (fun i hi _ => adds_E rfl) (by rw [cL_len]; omega) ?_) ?_)
      · intro i hi s' H' C cl fp
        rw [cL_len] at hi
        rw [cL_get hi]
        exact tg_two 1 2 nd rfl
      · intro i hi _ s' H' C cl fp
        rw [cL_len] at hi
        have hm : (i + 1) % l.length < l.length := Nat.mod_lt _ h0
        exact de_pD (dv 2) (de_ixL (d := cD (gC l ((i + 1) % l.length))) (i := (((i : Nat) : Int) + 1) % ((l.length : Nat) : Int)) (dv 0) ((de_mod (de_add (dv 1) de_int) (de_lenL B.len (dv 0)) (by rw [cL_len]; omega)).cast (by rw [cL_len])) (by rw [show (((i : Nat) : Int) + 1) % ((l.length : Nat) : Int) = (((i + 1) % l.length : Nat) : Int) by rw [Int.natCast_emod]; rfl]; exact cL_at hm))
      · rw [Bool.or_eq_true]; exact .inr rfl
      · show Dt.lst _ = _
        unfold stepsF outs pL
        rw [if_neg hb, cL_len, List.map_map]
        congr 1
        rw [List.filter_eq_self.mpr (fun _ _ => rfl)]; rfl

abbrev FD_without_zeros (T : List (Addr × Str)) (P : Program) (w : World) (K : PySem.W.Frag) (mg : Str → Option Value) (base : Heap) : Prop := FnD T P w K mg base "without_zeros" 1 ["numbers"] R_without_zeros
theorem f_without_zeros (B : Bi mg) (h : Has K mg "without_zeros" "without_zeros" s_without_zeros) : FD_without_zeros T P w K mg base := by
  refine fnD_at (N := ["numbers", "key"]) h ⟨rfl, rfl, rfl, by decide +kernel, rfl, by decide +kernel, by decide +kernel⟩ ?_ ?_
  · intro kV doc pm an cdv ct us hl
    match us, hl with
    | [u0], _ => rfl
  · have nd : (["numbers", "key"] : List Str).Nodup := by decide +kernel
    rintro f cdv A outer s H E ds d hr hl ⟨α, inst, key, l, f0, inj, h8, hnl, ok, rfl, rfl⟩
    have ek : (kvG (fun z => NestedKey.tup (key z)) l f0).map (fun kv => kd kv.1) = l.map fun z => kd (.tup (key z)) := by unfold kvG; rw [List.map_map]; rfl
    have es : ((kvG (fun z => NestedKey.tup (key z)) l f0).map fun kv => kd kv.1).mergeSort dle = (l.mergeSort (leG key)).map fun z => kd (.tup (key z)) := by
      rw [ek]
      exact (List.map_mergeSort (r := leG key) (s := dle) (f := fun z => kd (.tup (key z))) fun a _ b _ => rfl).symm
    have hmem : ∀ z, z ∈ l.mergeSort (leG key) → z ∈ l := fun z hz => (List.mergeSort_perm l (leG key)).mem_iff.mp hz
    have hlen : (l.mergeSort (leG key)).length = l.length := List.length_mergeSort l
    generalize hL : l.mergeSort (leG key) = L at es hmem hlen
    have hl5 := ok.len
    rw [List.length_map] at hl5
    have item : ∀ i, i < (L.map fun z => kd (.tup (key z))).length → ∃ z, L[i]? = some z ∧ z ∈ l ∧ (L.map fun z => kd (.tup (key z))).getD i .non = kd (.tup (key z)) := fun i hi => by
      rw [List.length_map] at hi
      have e := List.getElem?_eq_getElem hi
      refine ⟨L[i], e, hmem _ (List.getElem_mem _), ?_⟩
      rw [List.getD_eq_getElem?_getD, List.getElem?_map, e]; rfl
    refine d_one (d_retN (dn_lc (own := [("key", 1)]) (js := [1]) (f := fun i ε => ε.set 1 (.val ((L.map fun z => kd (.tup (key z))).getD i .non))) (fun i => (L[i]?).any fun z => !decide (f0 z = 0)) (fun i => (L[i]?).elim .non fun z => .tup [kd (.tup (key z)), .int (f0 z)]) (fun i => gE (bodyX P w K mg base ["numbers", "key"] "without_zeros" s_without_zeros f cdv A outer s H E) ((L[i]?).elim .non fun z => .tup [kd (.tup (key z)), .int (f0 z)])) (di_list (ds := L.map fun z => kd (.tup (key z))) (DG.lst (by rw [← es]; exact dn_sortedD (u64 hr) B.sorted (dv 0) (by rw [ek]; exact ok)))) nd (blkOk_by rfl) (fun i hi _ _ _ _ _ => tg_name 1 nd) (by decide) ?_ ?_ ?_ (by rw [List.length_map, hlen]; omega) ?_) ?_)
    · intro i hi s' H' C cl fp
      obtain ⟨z, e, hz, e2⟩ := item i hi
      rw [e, e2]
      refine dts_one (dt_cmp c_neI (de_dget (key z) (u9 hr) (dv 0) (dv 1) (kvG_get (key := fun z => NestedKey.tup (key z)) inj hz) rfl (h8 z)) de_int rfl)
    · intro i hi hb s' H' C cl fp
      obtain ⟨z, e, hz, e2⟩ := item i hi
      rw [e2]
      have : (L[i]?).elim Dt.non (fun z => .tup [kd (.tup (key z)), .int (f0 z)]) = .tup [kd (.tup (key z)), .int (f0 z)] := by rw [e]; rfl
      rw [this]
      exact de_tup (da_cons (dv 1) (da_cons (de_dget (key z) (u9 hr) (dv 0) (dv 1) (kvG_get (key := fun z => NestedKey.tup (key z)) inj hz) rfl (h8 z)) da_nil))
    · intro i hi hb
      refine adds_E ?_
      obtain ⟨z, e, hz, e2⟩ := item i hi
      rw [e]
      show (_ && (_ && true)) = true
      rw [hnl z]; rfl
    · rw [Bool.or_eq_true]; exact .inr rfl
    · show Dt.lst _ = _
      unfold wzF
      rw [hL, List.length_map, outs_opt]
end
end Cp
end
section
set_option maxHeartbeats 4000000
namespace Cp
open PySem PySem.Spec PyProof.Rows L2

open PySem.W LamX
theorem imm_wz {α : Type} (key : α → List NK) (l : List α) (f : α → Int) : immAll (wzF key l f) = true := immAll_map (fun z => by
  show (_ && (_ && true)) = true
  rw [kd_imm]; rfl) _
def netD (S : List (Co × Co)) : List Dt := wzF kP (keysF S) (netF S)
theorem stepsF_len (l : List Co) : (stepsF l).length ≤ l.length := by
  unfold stepsF
  split
  · simp
  · simp
def cellF (st : List ((Co × Co) × Int)) (z : Co) : Int := sumZ (st.map fun e => gz z e.1 e.2)
def cellsD (W H : Nat) (F : Co → Int) : List Dt := ((gridC W H).filter fun z => !decide (F z = 0)).map fun z => .tup [cD z, .int (F z)]
def stD2 (e : (Co × Co) × Int) : Dt := .tup [pairD e.1, .int e.2]
theorem cellF_snoc {st : List ((Co × Co) × Int)} {i : Nat} {e : (Co × Co) × Int} (h : st[i]? = some e) (z : Co) : cellF (st.take (i + 1)) z = cellF (st.take i) z + gz z e.1 e.2 := by
  unfold cellF
  rw [List.take_add_one, h, List.map_append, sumZ_app]
  simp [sumZ]
theorem dle_c (a b : Co) : dle (cD a) (cD b) = !decide (Tri.lt b a) := by
  have e : dataLt (py (cD b)) (py (cD a)) = decide (Tri.lt b a) := by
    have e1 : dataLt (py (cD b)) (py (cD a)) = if PyData.eqv (.int b.1) (.int a.1) = true then (if PyData.eqv (.int b.2) (.int a.2) = true then PyProof.Rows.lexLt itemOrd (keyToksAll []) (keyToksAll []) else dataLt (.int b.2) (.int a.2)) else dataLt (.int b.1) (.int a.1) := by
      refine (dataLt_tuple _ _).trans ((dataLt_cons rfl _ _).trans ?_)
      congr 1
      exact dataLt_cons rfl _ _
    have q1 : ∀ i j : Int, (PyData.eqv (.int i) (.int j) = true) ↔ i = j := fun i j => by
      show ((i == j) = true) ↔ _
      rw [beq_iff_eq]
    have q2 : PyProof.Rows.lexLt itemOrd (keyToksAll []) (keyToksAll []) = false := rfl
    rw [e1, q2, dataLt_int, dataLt_int]
    unfold Tri.lt
    by_cases h1 : b.1 = a.1
    · rw [if_pos ((q1 _ _).mpr h1)]
      by_cases h2 : b.2 = a.2
      · rw [if_pos ((q1 _ _).mpr h2)]
        exact (decide_eq_false (by omega)).symm
      · rw [if_neg (fun z => h2 ((q1 _ _).mp z))]
        exact decide_eq_decide.mpr (by omega)
    · rw [if_neg (fun z => h1 ((q1 _ _).mp z))]
      exact decide_eq_decide.mpr (by omega)
  show (!dataLt (py (cD b)) (py (cD a))) = _
  rw [e]
theorem rowC_sorted (x n : Nat) : (rowC x n).Pairwise Tri.lt := by
  unfold rowC
  exact List.Pairwise.map _ (fun a b h => .inr ⟨rfl, Int.ofNat_lt.mpr h⟩) List.pairwise_lt_range
theorem gridC_sorted (n : Nat) : ∀ m, (gridC m n).Pairwise Tri.lt
  | 0 => .nil
  | m + 1 => by
    rw [gridC_succ, List.pairwise_append]
    refine ⟨gridC_sorted n m, rowC_sorted m n, fun a ha b hb => ?_⟩
    have h1 := (gridC_mem.mp ha).2.1
    unfold rowC at hb
    obtain ⟨y, _, rfl⟩ := List.mem_map.mp hb
    exact .inl h1
theorem sort_lt {l : List Co} (n : l.Nodup) : (l.mergeSort (leG kC)).Pairwise Tri.lt := by
  have T := sortLe_total (listOrd itemOrd) false (fun b : Co => keyToks (py (cD b)))
  have p := List.pairwise_mergeSort (le := leG kC) (fun a b c h1 h2 => T.trans _ _ _ h1 h2) (fun a b => by rw [Bool.or_eq_true]; exact T.total a b) l
  have nd : (l.mergeSort (leG kC)).Nodup := (List.mergeSort_perm l (leG kC)).nodup_iff.mpr n
  refine (p.and nd).imp fun {a b} ⟨h1, h2⟩ => ?_
  have h1 : dle (cD a) (cD b) = true := h1
  rw [dle_c] at h1
  have h1 : ¬ Tri.lt b a := by simpa using h1
  rcases Tri.lt_or h2 with q | q
  · exact q
  · exact absurd q h1
section
variable {T : List (Addr × Str)} {P : Program} {w : World} {K : PySem.W.Frag} {mg : Str → Option Value} {base : Heap}
def R_net_steps (C : Addr) (ds : List Dt) (d : Dt) : Prop := ∃ W H a b kvs t chain, Tab kvs t W H ∧ chain ≠ [] ∧ chain.length < 60 ∧ (∀ x ∈ chain, Tri.onB (W : Nat) (H : Nat) x) ∧ ds = [plD C W H a b kvs, .lst [.lst (cL chain)]] ∧ d = .lst (netD (stepsF (cwF t chain)))
abbrev FD_net_steps (T : List (Addr × Str)) (P : Program) (w : World) (K : PySem.W.Frag) (mg : Str → Option Value) (base : Heap) (C : Addr) : Prop := FnD T P w K mg base "net_steps" 6 ["plane", "chains"] (R_net_steps C)
theorem f_net_steps {C : Addr} (B : Bi mg) (h : Has K mg "net_steps" "net_steps" s_net_steps) (F_steps_of : FD_steps_of T P w K mg base) (F_without_zeros : FD_without_zeros T P w K mg base) (F_closed_walk : FD_closed_walk T P w K mg base C) : FD_net_steps T P w K mg base C := by
  refine fnD_at (N := ["plane", "chains", "numbers", "chain", "start", "end"]) h ⟨rfl, rfl, rfl, by decide +kernel, rfl, by decide +kernel, by decide +kernel⟩ ?_ ?_
  · intro kV doc pm an cdv ct us hl
    match us, hl with
    | [u0, u1], _ => rfl
  · have nd : (["plane", "chains", "numbers", "chain", "start", "end"] : List Str).Nodup := by decide +kernel
    rintro f cdv A outer s H E ds d hr hl ⟨W, Hh, a, b, kvs, t, chain, tab, hne, hl2, hon, rfl, rfl⟩
    have cw1 : cwF t chain ≠ [] := by
      unfold cwF
      split
      · simp
      · assumption
    have cw2 : (cwF t chain).length < 1000 := by
      have := cwP_len tab.full tab.w8 tab.h8 hon chain.length (Nat.le_refl _)
      unfold cwF
      split
      · simp
      · omega
    have sl := stepsF_len (cwF t chain)
    generalize hS : stepsF (cwF t chain) = S at sl
    refine d_cons (d_setD 2 nd dd_new ?_)
    refine d_cons (d_for (di_list (bv 1)) (fun i hi => tg_name 3 nd) (fun i ε => ∃ kv s3 s4 s5, ε = [.val (plD C W Hh a b kvs), .val (.lst [.lst (cL chain)]), .od kv, s3, s4, s5] ∧ kv = kvG (fun z => NestedKey.tup (kP z)) (keysF (if i = 0 then [] else S)) (netF (if i = 0 then [] else S))) ⟨_, _, _, _, rfl, rfl⟩ ?_ ?_)
    · rintro i ε' hi ⟨_, s3, s4, s5, rfl, rfl⟩
      have hi : i < 1 := hi
      obtain rfl : i = 0 := by omega
      refine d_one (d_for (di_list (ds := pL S) (DG.lst (dn_call F_steps_of hr (da_cons (dn_call (ds' := cL (cwF t chain)) F_closed_walk hr (da_cons (dv 0) (da_cons (dv 3) da_nil)) ⟨W, Hh, a, b, kvs, t, chain, tab, hne, by omega, hon, rfl, rfl⟩ (imm_cL _)).lstW da_nil) ⟨cwF t chain, cw1, cw2, rfl, by rw [hS]⟩ (imm_pL _)))) (js := [4] ++ ([5] ++ [])) (f := fun i ε => (ε.set 4 (.val (cD (gP S i).1))).set 5 (.val (cD (gP S i).2))) ?_ (fun i ε => ∃ kv s4 s5, ε = [.val (plD C W Hh a b kvs), .val (.lst [.lst (cL chain)]), .od kv, .val (.lst (cL chain)), s4, s5] ∧ kv = kvG (fun z => NestedKey.tup (kP z)) (keysF (S.take i)) (netF (S.take i))) ⟨_, _, _, rfl, rfl⟩ ?_ ?_)
      · intro i hi
        rw [pL_len] at hi
        rw [pL_gP hi]
        exact tg_two 4 5 nd rfl
      · rintro i ε' hi ⟨_, s4, s5, rfl, rfl⟩
        rw [pL_len] at hi
        have em := gP_some hi
        generalize gP S i = pq at em
        obtain ⟨p, q⟩ := pq
        have et : S.take (i + 1) = S.take i ++ [(p, q)] := by rw [List.take_add_one, em]; rfl
        obtain ⟨g1, g2⟩ := kvG_add (key := fun z => NestedKey.tup (kP z)) kP_inj (l := keysF (S.take i)) (f := netF (S.take i)) (z := normS (p, q)) (n := sgS (p, q)) (netF_zero _ _)
        have e1 : addK (keysF (S.take i)) (normS (p, q)) = keysF (S.take (i + 1)) := by rw [et, keysF_snoc]
        have e2 : (fun x => netF (S.take i) x + if x = normS (p, q) then sgS (p, q) else 0) = netF (S.take (i + 1)) := by
          funext x
          rw [et, netF_snoc]
        rw [e1, e2] at g2
        have kl : (kvG (fun z => NestedKey.tup (kP z)) (keysF (S.take i)) (netF (S.take i))).length ≤ 100000 := by
          rw [kvG_len]
          have := keysF_len (S.take i)
          have := List.length_take_le i S
          omega
        refine d_one (d_if (dt_cmp (c_ltC hr.units0) (dv 4) (dv 5) rfl) (fun hb => ?_) (fun hb => ?_))
        · have hb : Tri.lt p q := by simpa using hb
          have n1 : normS (p, q) = (p, q) := if_pos hb
          have n2 : sgS (p, q) = 1 := if_pos hb
          rw [n1, n2] at g2
          rw [n1] at g1
          exact d_one (d_put 2 [cK p, cK q] (u9 hr) rfl (de_pD (dv 4) (dv 5)) (de_add (i := netF (S.take i) (p, q)) ((de_dget2 [cK p, cK q] (u9 hr) (dv 2) (de_pD (dv 4) (dv 5)) de_int).cast g1) de_int) rfl kl ⟨_, _, _, rfl, g2⟩)
        · have hb : ¬ Tri.lt p q := by simpa using hb
          have n1 : normS (p, q) = (q, p) := if_neg hb
          have n2 : sgS (p, q) = -1 := if_neg hb
          rw [n1, n2] at g2
          rw [n1] at g1
          exact d_one (d_put 2 [cK q, cK p] (u9 hr) rfl (de_pD (dv 5) (dv 4)) (de_sub (i := netF (S.take i) (q, p)) ((de_dget2 [cK q, cK p] (u9 hr) (dv 2) (de_pD (dv 5) (dv 4)) de_int).cast g1) de_int) rfl kl ⟨_, _, _, rfl, g2⟩)
      · rintro ε' ⟨_, s4, s5, rfl, rfl⟩
        refine ⟨_, _, _, _, rfl, ?_⟩
        rw [pL_len, List.take_length, if_neg (by decide)]
    · rintro ε' ⟨_, s3, s4, s5, rfl, rfl⟩
      have kl : (keysF S).length ≤ 100000 := by have := keysF_len S; omega
      refine d_one (d_retN (dn_call (ds' := netD S) F_without_zeros hr (da_cons (dv 2) da_nil) ⟨Co × Co, inferInstance, kP, keysF S, netF S, kP_inj, fun _ => Nat.le_of_ble_eq_true rfl, fun _ => rfl, srtP_ok _ kl, rfl, rfl⟩ (imm_wz _ _ _)) rfl)
def R_cell_numbers (ds : List Dt) (d : Dt) : Prop := ∃ W H : Nat, ∃ st : List ((Co × Co) × Int), W ≤ 8 ∧ H ≤ 8 ∧ st.length < 1000 ∧ (∀ e ∈ st, e.1.1.1 = e.1.2.1 → 0 ≤ e.1.1.1 ∧ e.1.1.1 ≤ W ∧ 0 ≤ e.1.1.2 ∧ e.1.1.2 < H) ∧ ds = [.lst (st.map stD2)] ∧ d = .lst (cellsD W H (cellF st))
abbrev FD_cell_numbers (T : List (Addr × Str)) (P : Program) (w : World) (K : PySem.W.Frag) (mg : Str → Option Value) (base : Heap) : Prop := FnD T P w K mg base "cell_numbers" 2 ["steps"] R_cell_numbers
theorem f_cell_numbers (B : Bi mg) (h : Has K mg "cell_numbers" "cell_numbers" s_cell_numbers) (F_without_zeros : FD_without_zeros T P w K mg base) : FD_cell_numbers T P w K mg base := by
  refine fnD_at (N := ["steps", "numbers", "a", "b", "number", "x", "cell"]) h ⟨rfl, rfl, rfl, by decide +kernel, rfl, by decide +kernel, by decide +kernel⟩ ?_ ?_
  · intro kV doc pm an cdv ct us hl
    match us, hl with
    | [u0], _ => rfl
  · have nd : (["steps", "numbers", "a", "b", "number", "x", "cell"] : List Str).Nodup := by decide +kernel
    rintro f cdv A outer s H E ds d hr hl ⟨W, Hh, st, w8, h8, l8, hon, rfl, rfl⟩
    refine d_cons (d_setD 1 nd dd_new ?_)
    refine d_cons (d_for (di_list (bv 0)) (js := ([2] ++ ([3] ++ [])) ++ ([4] ++ [])) (f := fun i ε => ((ε.set 2 (.val (cD (st.getD i (((0, 0), (0, 0)), 0)).1.1))).set 3 (.val (cD (st.getD i (((0, 0), (0, 0)), 0)).1.2))).set 4 (.val (.int (st.getD i (((0, 0), (0, 0)), 0)).2))) ?_ (fun i ε => ∃ kv KK f s2 s3 s4 s5 s6, ε = [.val (.lst (st.map stD2)), .od kv, s2, s3, s4, s5, s6] ∧ kv = kvG (fun z => NestedKey.tup (kC z)) KK f ∧ KK.Nodup ∧ (∀ z, z ∉ KK → f z = 0) ∧ (∀ z ∈ KK, z ∈ gridC W Hh) ∧ KK.length ≤ i * 9 ∧ ∀ z, 0 ≤ z.1 → f z = cellF (st.take i) z) ⟨_, [], fun _ => 0, _, _, _, _, _, rfl, rfl, List.nodup_nil, fun _ _ => rfl, fun _ h => by (cases h), by simp, fun _ _ => rfl⟩ ?_ ?_)
    · intro i hi
      rw [List.length_map] at hi
      have e : st[i]? = some (st.getD i (((0, 0), (0, 0)), 0)) := by rw [List.getD_eq_getElem?_getD, List.getElem?_eq_getElem hi]; rfl
      have e2 : (st.map stD2).getD i .non = stD2 (st.getD i (((0, 0), (0, 0)), 0)) := by rw [List.getD_eq_getElem?_getD, List.getElem?_map, e]; rfl
      rw [e2]
      generalize st.getD i (((0, 0), (0, 0)), 0) = e0
      exact tg_tup (tgs_cons (tg_two 2 3 nd rfl) (tgs_cons (tg_name 4 nd) tgs_nil rfl) rfl)
    · rintro i ε' hi ⟨_, KK, f1, s2, s3, s4, s5, s6, rfl, rfl, kn, k0, kg, kl, kf⟩
      rw [List.length_map] at hi
      have e : st[i]? = some (st.getD i (((0, 0), (0, 0)), 0)) := by rw [List.getD_eq_getElem?_getD, List.getElem?_eq_getElem hi]; rfl
      generalize st.getD i (((0, 0), (0, 0)), 0) = e0 at e
      obtain ⟨⟨a, b⟩, n⟩ := e0
      have hm := hon _ (List.mem_of_getElem? e)
      have cs := fun z => cellF_snoc e z
      refine d_one (d_if (dt_cmp c_eqI (de_c0 (dv 2) de_int) (de_c0 (dv 3) de_int) rfl) (fun hb => ?_) (fun hb => d_nil ?_))
      · have hb : a.1 = b.1 := by simpa using hb
        obtain ⟨m1, m2, m3, m4⟩ := hm hb
        simp only at m1 m2 m3 m4
        refine d_one (d_for (di_range1 B.range (n := a.1) (de_c0 (dv 2) de_int) (by omega)) (fun i hi => tg_name 5 nd) (fun j ε => ∃ kv KK f s5 s6, ε = [.val (.lst (st.map stD2)), .od kv, .val (cD a), .val (cD b), .val (.int n), s5, s6] ∧ kv = kvG (fun z => NestedKey.tup (kC z)) KK f ∧ KK.Nodup ∧ (∀ z, z ∉ KK → f z = 0) ∧ (∀ z ∈ KK, z ∈ gridC W Hh) ∧ KK.length ≤ i * 9 + j ∧ ∀ z, 0 ≤ z.1 → f z = cellF (st.take i) z + if z.1 < (j : Nat) ∧ z.2 = a.2 then n else 0) ⟨_, KK, f1, _, _, rfl, rfl, kn, k0, kg, by omega, fun z hz => ?_⟩ ?_ ?_)
        · rw [kf z hz, if_neg (by omega)]; omega
        · rintro j ε' hj ⟨_, KK, f2, s5, s6, rfl, rfl, kn, k0, kg, kl, kf⟩
          have hj : j < a.1.toNat := hj
          refine d_cons (d_set 6 nd (DG.strong (de_cD (dv 5) (de_c1 (dv 2) de_int)) rfl) ?_)
          obtain ⟨g1, g2⟩ := kvG_add (key := fun z => NestedKey.tup (kC z)) kC_inj (l := KK) (f := f2) (z := ((((j : Nat) : Int)), a.2)) (n := n) (k0 _)
          refine d_one (d_put 1 (kC ((((j : Nat) : Int)), a.2)) (u9 hr) rfl (dv 6) (de_add (i := f2 ((((j : Nat) : Int)), a.2)) ((de_dget2 (kC ((((j : Nat) : Int)), a.2)) (u9 hr) (dv 1) (dv 6) de_int).cast g1) (dv 4)) rfl ?_ ⟨_, addK KK ((((j : Nat) : Int)), a.2), _, _, _, rfl, g2, addK_nodup kn, fun z hz => ?_, fun z hz => ?_, ?_, fun z hz => ?_⟩)
          · rw [kvG_len]; omega
          · rw [addK_mem, not_or] at hz
            rw [k0 z hz.1, if_neg hz.2]; rfl
          · rcases addK_mem.mp hz with q | q
            · exact kg z q
            · rw [q, gridC_mem]
              simp only
              omega
          · have := addK_len (l := KK) (z := ((((j : Nat) : Int)), a.2))
            omega
          · rw [kf z hz]
            have ee : (z = ((((j : Nat) : Int)), a.2)) ↔ (z.1 = ((j : Nat) : Int) ∧ z.2 = a.2) := Prod.ext_iff
            by_cases q : z = ((((j : Nat) : Int)), a.2)
            · have q' := ee.mp q
              rw [if_pos q, if_neg (by have := q'.1; omega), if_pos (by have := q'.1; exact ⟨by omega, q'.2⟩)]; omega
            · have q' := fun y => q (ee.mpr y)
              rw [if_neg q]
              by_cases q2 : z.1 < ((j : Nat) : Int) ∧ z.2 = a.2
              · rw [if_pos q2, if_pos ⟨by omega, q2.2⟩]; omega
              · rw [if_neg q2, if_neg (fun y => by
                  rcases Int.lt_or_eq_of_le (show z.1 ≤ ((j : Nat) : Int) by omega) with r | r
                  · exact q2 ⟨r, y.2⟩
                  · exact q' ⟨r, y.2⟩)]; omega
        · rintro ε' ⟨_, KK, f2, s5, s6, rfl, rfl, kn, k0, kg, kl, kf⟩
          refine ⟨_, KK, f2, _, _, _, _, _, rfl, rfl, kn, k0, kg, by omega, fun z hz => ?_⟩
          rw [kf z hz, cs z]
          unfold gz
          simp only
          congr 1
          have : ((z.1 < ((a.1.toNat : Nat) : Int) ∧ z.2 = a.2)) ↔ (a.1 = b.1 ∧ z.1 < a.1 ∧ z.2 = a.2) := ⟨fun y => ⟨hb, by omega, y.2⟩, fun y => ⟨by omega, y.2.2⟩⟩
          simp only [this]
      · have hb : ¬ a.1 = b.1 := by simpa using hb
        refine ⟨_, KK, f1, _, _, _, _, _, rfl, rfl, kn, k0, kg, by omega, fun z hz => ?_⟩
        rw [kf z hz, cs z]
        unfold gz
        simp only
        rw [if_neg (fun q => hb q.1), Int.add_zero]
    · rintro ε' ⟨_, KK, f1, s2, s3, s4, s5, s6, rfl, rfl, kn, k0, kg, kl, kf⟩
      rw [List.length_map] at kl kf
      rw [List.take_length] at kf
      refine d_one (d_retN (dn_call (ds' := wzF kC KK f1) F_without_zeros hr (da_cons (dv 1) da_nil) ⟨Co, inferInstance, kC, KK, f1, kC_inj, fun _ => Nat.le_of_ble_eq_true rfl, fun _ => rfl, srtC_ok _ (by omega), rfl, rfl⟩ (imm_wz _ _ _)) ?_)
      show Dt.lst _ = _
      unfold wzF cellsD
      have ef : (KK.mergeSort (leG kC)).filter (fun z => !decide (f1 z = 0)) = (gridC W Hh).filter (fun z => !decide (cellF st z = 0)) := by
        refine sorted_ext ((sort_lt kn).filter _) ((gridC_sorted Hh W).filter _) fun z => ?_
        rw [List.mem_filter, List.mem_filter, (List.mergeSort_perm KK (leG kC)).mem_iff]
        constructor
        · rintro ⟨h1, h2⟩
          have hg := kg z h1
          refine ⟨hg, ?_⟩
          rw [← kf z (gridC_mem.mp hg).1]; exact h2
        · rintro ⟨h1, h2⟩
          rw [← kf z (gridC_mem.mp h1).1] at h2
          refine ⟨?_, h2⟩
          by_cases q : z ∈ KK
          · exact q
          · rw [k0 z q] at h2; simp at h2
      rw [ef]
      congr 1
      refine List.map_congr_left fun z hz => ?_
      rw [kf z (gridC_mem.mp (List.mem_filter.mp hz).1).1]; rfl
end
end Cp
end
section
set_option maxHeartbeats 4000000
namespace Cp
open PySem PySem.Spec PyProof.Rows L2

open PySem.W LamX
/-! ### the closed walk of three corners -/
theorem cwP3 (t : Co → Co → Tri.L) (p q r : Co) : cwP t [p, q, r] 3 = Tri.cl3 t p q r := by
  unfold cwP Tri.cl3
  show ([_, _, _] : List (List Co)).flatten = _
  simp [gC]
theorem cwF3 (t : Co → Co → Tri.L) (p q r : Co) : cwF t [p, q, r] = if Tri.cl3 t p q r = [] then [p] else Tri.cl3 t p q r := by
  unfold cwF
  show (if cwP t [p, q, r] 3 = [] then [gC [p, q, r] 0] else cwP t [p, q, r] 3) = _
  rw [cwP3]; rfl
section
variable {t : Co → Co → Tri.L} {W H : Int} {p q r : Co}
theorem drop_head (c : Tri.Full t W H) (hp : Tri.onB W H p) (hq : Tri.onB W H q) (e : (Tri.ln t p q).dropLast ≠ []) : ∃ x, (Tri.ln t p q).dropLast = p :: x := by
  obtain ⟨x, hx⟩ := Tri.ln_head c hp hq
  rw [hx] at e ⊢
  match x, e with
  | [], e => exact absurd rfl e
  | y :: x, _ => exact ⟨_, rfl⟩
theorem drop_nil (c : Tri.Full t W H) (hp : Tri.onB W H p) (hq : Tri.onB W H q) (e : (Tri.ln t p q).dropLast = []) : p = q := by
  have := Tri.drop_len c hp hq
  rw [e] at this
  exact Tri.dist_zero this.symm
theorem cl3_head (c : Tri.Full t W H) (hp : Tri.onB W H p) (hq : Tri.onB W H q) (hr : Tri.onB W H r) (e : Tri.cl3 t p q r ≠ []) : gC (Tri.cl3 t p q r) 0 = p := by
  unfold Tri.cl3 at e ⊢
  by_cases h1 : (Tri.ln t p q).dropLast = []
  · have := drop_nil c hp hq h1
    subst this
    rw [h1, List.nil_append] at e ⊢
    by_cases h2 : (Tri.ln t p r).dropLast = []
    · have := drop_nil c hp hr h2
      subst this
      rw [h2, List.nil_append] at e
      exact absurd rfl e
    · obtain ⟨x, hx⟩ := drop_head c hp hr h2
      rw [hx]; rfl
  · obtain ⟨x, hx⟩ := drop_head c hp hq h1
    rw [hx]; rfl
theorem cw3_ne : cwF t [p, q, r] ≠ [] := by
  rw [cwF3]
  split
  · simp
  · assumption
theorem cw3_adj (c : Tri.Full t W H) (hp : Tri.onB W H p) (hq : Tri.onB W H q) (hr : Tri.onB W H r) (h1 : (cwF t [p, q, r]).length ≠ 1) : Tri.adjL (cwF t [p, q, r] ++ [gC (cwF t [p, q, r]) 0]) := by
  rw [cwF3] at h1 ⊢
  by_cases e : Tri.cl3 t p q r = []
  · rw [if_pos e] at h1; exact absurd rfl h1
  · rw [if_neg e, cl3_head c hp hq hr e]
    exact (Tri.cl3_close c hp hq hr).2
theorem cw3_W (c : Tri.Full t W H) (hp : Tri.onB W H p) (hq : Tri.onB W H q) (hr : Tri.onB W H r) (z : Co) : windF (cwF t [p, q, r]) z = Tri.Om t p q r z := by
  rw [windF_W z cw3_ne, cwF3]
  by_cases e : Tri.cl3 t p q r = []
  · rw [if_pos e]
    have := (Tri.cl3_close c hp hq hr).1 z
    rw [← this, e]
    show Tri.W [p, p] z = Tri.W [p] z
    simp only [Tri.W]
    unfold Tri.om
    split <;> omega
  · rw [if_neg e, cl3_head c hp hq hr e]
    exact (Tri.cl3_close c hp hq hr).1 z
theorem cw3_on (c : Tri.Full t W H) (hp : Tri.onB W H p) (hq : Tri.onB W H q) (hr : Tri.onB W H r) : ∀ x ∈ cwF t [p, q, r], Tri.onB W H x := by
  intro x hx
  rw [cwF3] at hx
  split at hx
  · have : x = p := by simpa using hx
    rw [this]; exact hp
  · unfold Tri.cl3 at hx
    rcases List.mem_append.mp hx with h | h
    · exact Tri.ln_on c hp hq (List.dropLast_subset _ h)
    · rcases List.mem_append.mp h with h | h
      · exact Tri.ln_on c hq hr (List.dropLast_subset _ h)
      · exact Tri.ln_on c hr hp (List.dropLast_subset _ h)
end
def netL (S : List (Co × Co)) : List ((Co × Co) × Int) := (((keysF S).mergeSort (leG kP)).filter fun z => !decide (netF S z = 0)).map fun z => (z, netF S z)
theorem netL_D (S : List (Co × Co)) : (netL S).map stD2 = netD S := by
  unfold netL netD wzF
  rw [List.map_map]; rfl
theorem netL_len (S : List (Co × Co)) : (netL S).length ≤ S.length := by
  unfold netL
  rw [List.length_map]
  have := List.length_filter_le (fun z => !decide (netF S z = 0)) ((keysF S).mergeSort (leG kP))
  rw [List.length_mergeSort] at this
  have := keysF_len S
  omega
theorem netL_cell (S : List (Co × Co)) (z : Co) : cellF (netL S) z = sumZ (S.map fun s => gz z (normS s) (sgS s)) := by
  rw [← net_sum]
  unfold cellF netL
  rw [List.map_map]
  show sumZ (List.map (fun k => gz z k (netF S k)) _) = _
  rw [sumZ_filter (f := fun k => gz z k (netF S k)) (b := fun z => !decide (netF S z = 0)) (fun x _ hx => by
    have hx : netF S x = 0 := by simpa using hx
    show gz z x (netF S x) = 0
    rw [hx, gz_zero])]
  exact sumZ_perm ((List.mergeSort_perm (keysF S) (leG kP)).map _)
theorem netL_mem {S : List (Co × Co)} {e : (Co × Co) × Int} (h : e ∈ netL S) : ∃ s ∈ S, e.1 = normS s := by
  unfold netL at h
  obtain ⟨k, hk, rfl⟩ := List.mem_map.mp h
  exact keysF_mem ((List.mergeSort_perm (keysF S) (leG kP)).mem_iff.mp (List.mem_filter.mp hk).1)
theorem steps_mem {l : List Co} {s : Co × Co} (h : s ∈ stepsF l) : l.length ≠ 1 ∧ ∃ k, k < l.length ∧ s = (gC l k, gC l ((k + 1) % l.length)) := by
  unfold stepsF at h
  split at h
  · cases h
  · rename_i h1
    obtain ⟨k, hk, rfl⟩ := List.mem_map.mp h
    exact ⟨h1, k, List.mem_range.mp hk, rfl⟩
def comF (l1 l2 l3 : List Co) : Option Co := l1.find? fun c => decide (c ∈ l2) && decide (c ∈ l3)
def optD : Option Co → Dt
  | some c => cD c
  | none => .non
def innF (cells : List Co) : List Co := cells.filter fun z => decide ((z.1 - 1, z.2 - 1) ∈ cells) && (decide ((z.1 - 1, z.2) ∈ cells) && decide ((z.1, z.2 - 1) ∈ cells))
def kvB (l : List Co) : List (NK × Dt) := l.map fun z => (cK z, .bl true)
theorem kvB_get {l : List Co} (z : Co) : (getD (kvB l) (cK z)).isSome = decide (z ∈ l) := by
  unfold getD kvB
  induction l with
  | nil => rfl
  | cons a g ih =>
    rw [List.map_cons]
    by_cases e : a = z
    · subst e; simp [List.find?_cons]
    · have : ¬ cK a = cK z := fun q => e (cK_inj q)
      rw [List.find?_cons, decide_eq_false this]
      rw [show ((List.find? (fun kv => decide (kv.fst = cK z)) (List.map (fun z => (cK z, Dt.bl true)) g)).map (·.2)).isSome = decide (z ∈ g) from ih]
      exact decide_eq_decide.mpr ⟨fun h => List.mem_cons_of_mem _ h, fun h => (List.mem_cons.mp h).resolve_left fun q => e q.symm⟩
theorem putAll_kvB {l : List Co} (nd : l.Nodup) : ∀ n, n ≤ l.length → putAll ((List.range n).map fun i => (.tup (kC (gC l i)), .bl true)) = kvB (l.take n)
  | 0, _ => by simp [putAll, kvB]
  | n + 1, h => by
    have hn : n < l.length := by omega
    have e : l[n]? = some (gC l n) := by unfold gC; rw [List.getD_eq_getElem?_getD, List.getElem?_eq_getElem hn]; rfl
    rw [List.range_succ, List.map_append, List.map_cons, List.map_nil, putAll_snoc, putAll_kvB nd n (by omega), List.take_add_one, e]
    have hno : gC l n ∉ l.take n := nd_take nd e
    have hk := kvB_get (l := l.take n) (gC l n)
    rw [decide_eq_false hno] at hk
    unfold putD
    rw [if_neg (by show ¬ (getD (kvB (l.take n)) (cK (gC l n))).isSome = true; rw [hk]; decide)]
    unfold kvB
    rw [List.map_append]; rfl
section
variable {T : List (Addr × Str)} {P : Program} {w : World} {K : PySem.W.Frag} {mg : Str → Option Value} {base : Heap}
def R_windings (C : Addr) (ds : List Dt) (d : Dt) : Prop := ∃ W H a b kvs t p q r, Tab kvs t W H ∧ Tri.onB (W : Nat) (H : Nat) p ∧ Tri.onB (W : Nat) (H : Nat) q ∧ Tri.onB (W : Nat) (H : Nat) r ∧ ds = [plD C W H a b kvs, .lst (cL [p, q, r])] ∧ d = .lst (cellsD W H (windF (cwF t [p, q, r])))
abbrev FD_windings (T : List (Addr × Str)) (P : Program) (w : World) (K : PySem.W.Frag) (mg : Str → Option Value) (base : Heap) (C : Addr) : Prop := FnD T P w K mg base "windings" 7 ["plane", "chain"] (R_windings C)
theorem f_windings {C : Addr} (B : Bi mg) (h : Has K mg "windings" "windings" s_windings) (F_cell_numbers : FD_cell_numbers T P w K mg base) (F_net_steps : FD_net_steps T P w K mg base C) : FD_windings T P w K mg base C := by
  refine fnD_at (N := ["plane", "chain"]) h ⟨rfl, rfl, rfl, by decide +kernel, rfl, by decide +kernel, by decide +kernel⟩ ?_ ?_
  · intro kV doc pm an cdv ct us hl
    match us, hl with
    | [u0, u1], _ => rfl
  · have nd : (["plane", "chain"] : List Str).Nodup := by decide +kernel
    rintro f cdv A outer s H E ds d hr hl ⟨W, Hh, a, b, kvs, t, p, q, r, tab, hp, hq, hr0, rfl, rfl⟩
    have adj := cw3_adj tab.full hp hq hr0
    have onb := cw3_on tab.full hp hq hr0
    have cwl : (cwF t [p, q, r]).length ≤ 48 := by
      have := cwP_len (chain := [p, q, r]) tab.full tab.w8 tab.h8 (by simp [hp, hq, hr0]) 3 (Nat.le_refl _)
      rw [cwP3] at this
      rw [cwF3]
      split
      · simp
      · omega
    have sl := stepsF_len (cwF t [p, q, r])
    have sm := fun s => steps_mem (l := cwF t [p, q, r]) (s := s)
    have ws := fun z => windF_sum (l := cwF t [p, q, r]) z fun h k hk => closed_adj (adj h) hk
    have nl := netL_len (stepsF (cwF t [p, q, r]))
    refine d_one (d_retN (dn_call (ds' := cellsD W Hh (windF (cwF t [p, q, r]))) F_cell_numbers hr (da_cons (dn_call (ds' := netD (stepsF (cwF t [p, q, r]))) F_net_steps hr (da_cons (dv 0) (da_cons (dn_lst (da_cons (dv 1) da_nil) (by rw [Bool.or_eq_true]; exact .inr rfl)).lstW da_nil)) ⟨W, Hh, a, b, kvs, t, [p, q, r], tab, by simp, by simp, by simp [hp, hq, hr0], rfl, rfl⟩ (imm_wz _ _ _)).lstW da_nil) ⟨W, Hh, netL (stepsF (cwF t [p, q, r])), tab.w8, tab.h8, by omega, ?_, by rw [netL_D], ?_⟩ (immAll_map (fun _ => rfl) _)) rfl)
    · rintro e he hx
      obtain ⟨s, hs, es⟩ := netL_mem he
      obtain ⟨h1, k, hk, rfl⟩ := sm s hs
      have ha := closed_adj (adj h1) hk
      have o1 := onb _ (gC_mem hk)
      have o2 := onb _ (gC_mem (Nat.mod_lt (k + 1) (by omega : 0 < (cwF t [p, q, r]).length)))
      generalize gC (cwF t [p, q, r]) k = u at ha o1 es
      generalize gC (cwF t [p, q, r]) ((k + 1) % (cwF t [p, q, r]).length) = v at ha o2 es
      rw [es] at hx ⊢
      unfold Tri.adjC at ha
      unfold Tri.onB at o1 o2
      unfold normS at hx ⊢
      by_cases l : Tri.lt u v
      · rw [if_pos l] at hx ⊢
        unfold Tri.lt at l
        simp only at hx ⊢ l
        omega
      · rw [if_neg l] at hx ⊢
        unfold Tri.lt at l
        simp only at hx ⊢ l
        omega
    · have : cellF (netL (stepsF (cwF t [p, q, r]))) = windF (cwF t [p, q, r]) := by
        funext z
        rw [netL_cell, ws z]
      rw [this]
def R_common_of_three (ds : List Dt) (d : Dt) : Prop := ∃ l1 l2 l3, l1.length < 1000 ∧ ds = [.lst (cL l1), .lst (cL l2), .lst (cL l3)] ∧ d = optD (comF l1 l2 l3)
abbrev FD_common_of_three (T : List (Addr × Str)) (P : Program) (w : World) (K : PySem.W.Frag) (mg : Str → Option Value) (base : Heap) : Prop := FnD T P w K mg base "common_of_three" 1 ["first", "second", "third"] R_common_of_three
theorem f_common_of_three (B : Bi mg) (h : Has K mg "common_of_three" "common_of_three" s_common_of_three) : FD_common_of_three T P w K mg base := by
  refine fnD_at (N := ["first", "second", "third", "corner"]) h ⟨rfl, rfl, rfl, by decide +kernel, rfl, by decide +kernel, by decide +kernel⟩ ?_ ?_
  · intro kV doc pm an cdv ct us hl
    match us, hl with
    | [u0, u1, u2], _ => rfl
  · have nd : (["first", "second", "third", "corner"] : List Str).Nodup := by decide +kernel
    rintro f cdv A outer s H E ds d hr hl ⟨l1, l2, l3, hl1, rfl, rfl⟩
    refine d_cons (d_for (di_list (bv 0)) (fun i hi => tg_name 3 nd) (fun i ε => ∃ s3, ε = [.val (.lst (cL l1)), .val (.lst (cL l2)), .val (.lst (cL l3)), s3] ∧ comF (l1.take i) l2 l3 = none) ⟨_, rfl, rfl⟩ ?_ ?_)
    · rintro i ε' hi ⟨s3, rfl, hno⟩
      rw [cL_len] at hi
      rw [cL_get hi]
      have e : l1[i]? = some (l1.getD i (0, 0)) := by rw [List.getD_eq_getElem?_getD, List.getElem?_eq_getElem hi]; rfl
      generalize l1.getD i (0, 0) = c at e
      refine d_one (d_if (dw_and (dt_cmp (c_inL (u65 hr)) (dv 3) (dv 1) rfl) fun _ => dw_and1 (dt_cmp (c_inL (u65 hr)) (dv 3) (dv 2) rfl)).dt (fun hb => ?_) (fun hb => d_nil ?_))
      · refine d_one (d_ret (dv 3) ?_)
        show cD c = optD (comF l1 l2 l3)
        have : comF l1 l2 l3 = some c := by
          unfold comF at hno ⊢
          have es : l1.take i ++ c :: l1.drop (i + 1) = l1 := by
            have h1 := List.take_append_drop (i + 1) l1
            rw [List.take_add_one, e] at h1
            simpa using h1
          have e9 : l1.find? (fun c => decide (c ∈ l2) && decide (c ∈ l3)) = (l1.take i ++ c :: l1.drop (i + 1)).find? (fun c => decide (c ∈ l2) && decide (c ∈ l3)) := by rw [es]
          rw [e9, List.find?_append, hno, List.find?_cons, hb]; rfl
        rw [this]; rfl
      · refine ⟨_, rfl, ?_⟩
        unfold comF at hno ⊢
        rw [List.take_add_one, e, List.find?_append, hno, Option.none_or]
        show List.find? _ [c] = none
        rw [List.find?_cons, hb]; rfl
    · rintro ε' ⟨s3, rfl, hno⟩
      rw [cL_len, List.take_length] at hno
      refine d_one (d_ret de_non ?_)
      show Dt.non = optD (comF l1 l2 l3)
      rw [hno]; rfl
def R_inner_corners (ds : List Dt) (d : Dt) : Prop := ∃ cells : List Co, cells.Nodup ∧ cells.length < 1000 ∧ ds = [.tup (cL cells)] ∧ d = .lst (cL (innF cells))
abbrev FD_inner_corners (T : List (Addr × Str)) (P : Program) (w : World) (K : PySem.W.Frag) (mg : Str → Option Value) (base : Heap) : Prop := FnD T P w K mg base "inner_corners" 1 ["cells"] R_inner_corners
theorem f_inner_corners (B : Bi mg) (h : Has K mg "inner_corners" "inner_corners" s_inner_corners) : FD_inner_corners T P w K mg base := by
  refine fnD_at (N := ["cells", "inside", "found", "x", "y", "cell"]) h ⟨rfl, rfl, rfl, by decide +kernel, rfl, by decide +kernel, by decide +kernel⟩ ?_ ?_
  · intro kV doc pm an cdv ct us hl
    match us, hl with
    | [u0], _ => rfl
  · have nd : (["cells", "inside", "found", "x", "y", "cell"] : List Str).Nodup := by decide +kernel
    rintro f cdv A outer s H E ds d hr hl ⟨cells, cn, cl, rfl, rfl⟩
    refine d_cons (d_setDc 1 (own := [("cell", 5)]) (js := [5]) (f := fun i ε => ε.set 5 (.val (cD (gC cells i)))) (fun i => kC (gC cells i)) (fun i => .bl true) (u9 hr) (di_tup (bv 0)) nd (blkOk_by rfl) (fun i hi _ _ _ _ _ => by rw [cL_len] at hi; rw [cL_get hi]; exact tg_name 5 nd) (by decide) (fun i hi _ _ _ _ _ => dv 5) (fun i hi _ _ _ _ _ => de_bl) (fun i hi => Nat.le_of_ble_eq_true rfl) (fun i hi => rfl) (by rw [cL_len]; omega) ?_)
    rw [cL_len, putAll_kvB cn _ (Nat.le_refl _), List.take_length]
    refine d_cons (d_setO 2 nd (dn_lst da_nil rfl) ?_)
    refine d_cons (d_for (di_tup (bv 0)) (js := [3] ++ ([4] ++ [])) (f := fun i ε => (ε.set 3 (.val (.int (gC cells i).1))).set 4 (.val (.int (gC cells i).2))) ?_ (fun i ε => ∃ xs s3 s4 s5, ε = [.val (.tup (cL cells)), .val (.dic (kvB cells)), .ol xs, s3, s4, s5] ∧ xs = cL ((cells.take i).filter fun z => decide ((z.1 - 1, z.2 - 1) ∈ cells) && (decide ((z.1 - 1, z.2) ∈ cells) && decide ((z.1, z.2 - 1) ∈ cells)))) ⟨_, _, _, _, rfl, rfl⟩ ?_ ?_)
    · intro i hi
      rw [cL_len] at hi
      rw [cL_get hi]
      exact tg_two 3 4 nd rfl
    · rintro i ε' hi ⟨_, s3, s4, s5, rfl, rfl⟩
      rw [cL_len] at hi
      have et := take_snoc (d := ((0, 0) : Co)) hi
      have et : cells.take (i + 1) = cells.take i ++ [gC cells i] := et
      generalize gC cells i = z at et
      have mem : ∀ (c : Co) {ε : List Sl} {e1 e2 : Expr} {pos : Pos}, True := fun _ _ _ _ _ => trivial
      refine d_one (d_if (dw_and ((dt_cmp (c_inD (kC (z.1 - 1, z.2 - 1)) (u9 hr)) (de_cD (de_sub (dv 3) de_int) (de_sub (dv 4) de_int)) (dv 1) rfl).cast (kvB_get _)) fun _ => dw_and ((dt_cmp (c_inD (kC (z.1 - 1, z.2)) (u9 hr)) (de_cD (de_sub (dv 3) de_int) (dv 4)) (dv 1) rfl).cast (kvB_get _)) fun _ => dw_and1 ((dt_cmp (c_inD (kC (z.1, z.2 - 1)) (u9 hr)) (de_cD (dv 3) (de_sub (dv 4) de_int)) (dv 1) rfl).cast (kvB_get _))).dt (fun hb => ?_) (fun hb => d_nil ?_))
      · refine d_one (d_app 2 rfl (de_cD (dv 3) (dv 4)) rfl ?_ ⟨_, _, _, _, rfl, ?_⟩)
        · rw [cL_len]
          have h1 := List.length_filter_le (fun z => decide ((z.1 - 1, z.2 - 1) ∈ cells) && (decide ((z.1 - 1, z.2) ∈ cells) && decide ((z.1, z.2 - 1) ∈ cells))) (cells.take i)
          have h2 := List.length_take_le i cells
          omega
        · rw [et, List.filter_append, List.filter_cons, if_pos hb]
          exact cL_snoc _ _
      · refine ⟨_, _, _, _, rfl, ?_⟩
        rw [et, List.filter_append, List.filter_cons, if_neg (by rw [hb]; decide)]; simp
    · rintro ε' ⟨_, s3, s4, s5, rfl, rfl⟩
      rw [cL_len, List.take_length]
      exact d_one (d_retO 2 rfl rfl)
end
end Cp
end
section
set_option maxHeartbeats 4000000
namespace Cp
open PySem PySem.Spec PyProof.Rows L2

open PySem.W LamX
/-- the triangle's class and its fields -/
structure TrC (K : PySem.W.Frag) (C : Addr) : Prop where
  cls : Cls K C
  ne : NoAttr K C "ends"
  nk : NoAttr K C "knees"
  nm : NoAttr K C "meeting"
  ns : NoAttr K C "sign"
  nc : NoAttr K C "cells"
  no : NoAttr K C "corners"
def cellsF (W H : Nat) (F : Co → Int) : List Co := (gridC W H).filter fun z => !decide (F z = 0)
def signF (W H : Nat) (F : Co → Int) : Int := match cellsF W H F with
  | [] => 0
  | z :: _ => F z
def cornF (l1 l2 l3 cells : List Co) : List Co := srt (l1 ++ l2 ++ l3 ++ innF cells)
def trW (t : Co → Co → Tri.L) (p q r : Co) : Co → Int := windF (cwF t [p, q, r])
def trF (W H : Nat) (t : Co → Co → Tri.L) (p q r : Co) : List (Str × Dt) := [("ends", .tup (cL [p, q, r])), ("knees", .tup (cL [kneeF (Tri.ln t p q) (Tri.ln t r p), kneeF (Tri.ln t q r) (Tri.ln t p q), kneeF (Tri.ln t r p) (Tri.ln t q r)])),
  ("meeting", optD (comF (Tri.ln t p q) (Tri.ln t q r) (Tri.ln t r p))), ("sign", .int (signF W H (trW t p q r))), ("cells", .tup (cL (cellsF W H (trW t p q r)))), ("corners", .tup (cL (cornF (Tri.ln t p q) (Tri.ln t q r) (Tri.ln t r p) (cellsF W H (trW t p q r)))))]
theorem cells_len {W H : Nat} (F : Co → Int) : (cellsF W H F).length ≤ W * H := by
  have := List.length_filter_le (fun z => !decide (F z = 0)) (gridC W H)
  rw [gridC_len] at this
  exact this
theorem cellsD_eq (W H : Nat) (F : Co → Int) : cellsD W H F = (cellsF W H F).map fun z => .tup [cD z, .int (F z)] := rfl
theorem cells_nodup (W H : Nat) (F : Co → Int) : (cellsF W H F).Nodup := (gridC_nodup H W).filter _
theorem imm_opt (o : Option Co) : (optD o).imm = true := by cases o <;> rfl
section
variable {T : List (Addr × Str)} {P : Program} {w : World} {K : PySem.W.Frag} {mg : Str → Option Value} {base : Heap}

def R_Triangle_init (D : Addr) (ds : List Dt) (fs : List (Str × Dt)) : Prop := ∃ W H a b kvs t p q r, Tab kvs t W H ∧ W + H ≤ 10 ∧ W * H ≤ 16 ∧ Tri.onB (W : Nat) (H : Nat) p ∧ Tri.onB (W : Nat) (H : Nat) q ∧ Tri.onB (W : Nat) (H : Nat) r ∧ ds = [plD D W H a b kvs, cD p, cD q, cD r] ∧ fs = trF W H t p q r
abbrev FD_Triangle_init (T : List (Addr × Str)) (P : Program) (w : World) (K : PySem.W.Frag) (mg : Str → Option Value) (base : Heap) (C D : Addr) : Prop := FnI T P w K mg base C 8 ["self", "plane", "p", "q", "r"] (R_Triangle_init D)
theorem f_Triangle_init {C D : Addr} (B : Bi mg) (hC : TrC K C) (h : HasI K C "Triangle.__init__" s_Triangle_init) (F_line : FD_Plane_line T P w K mg base D) (F_windings : FD_windings T P w K mg base D) (F_last_common : FD_last_common T P w K mg base) (F_common_of_three : FD_common_of_three T P w K mg base) (F_inner_corners : FD_inner_corners T P w K mg base) : FD_Triangle_init T P w K mg base C D := by
  refine fnI_at (N := ["self", "plane", "p", "q", "r", "first", "second", "third", "inside", "cell", "number"]) h ⟨rfl, rfl, rfl, by decide +kernel, rfl, by decide +kernel, by decide +kernel⟩ ?_ ?_
  · intro kV doc pm an cdv ct us hl
    match us, hl with
    | [u0, u1, u2, u3, u4], _ => rfl
  · have nd : (["self", "plane", "p", "q", "r", "first", "second", "third", "inside", "cell", "number"] : List Str).Nodup := by decide +kernel
    rintro f cdv A outer s H E x ds fs hr hl ⟨W, Hh, a, b, kvs, t, p, q, r, tab, wh10, wh16, hp, hq, hr0, rfl, rfl⟩
    have full := tab.full
    have on1 := fun c hc => Tri.ln_on (z := c) full hp hq hc
    have on2 := fun c hc => Tri.ln_on (z := c) full hq hr0 hc
    have on3 := fun c hc => Tri.ln_on (z := c) full hr0 hp hc
    have le1 : (Tri.ln t p q).length ≤ 11 := by rw [Tri.ln_len full hp hq]; unfold Tri.dist; unfold Tri.onB at hp hq; omega
    have le2 : (Tri.ln t q r).length ≤ 11 := by rw [Tri.ln_len full hq hr0]; unfold Tri.dist; unfold Tri.onB at hr0 hq; omega
    have le3 : (Tri.ln t r p).length ≤ 11 := by rw [Tri.ln_len full hr0 hp]; unfold Tri.dist; unfold Tri.onB at hp hr0; omega
    have ne1 : Tri.ln t p q ≠ [] := by obtain ⟨y, e⟩ := Tri.ln_head full hp hq; rw [e]; simp
    have ne2 : Tri.ln t q r ≠ [] := by obtain ⟨y, e⟩ := Tri.ln_head full hq hr0; rw [e]; simp
    have ne3 : Tri.ln t r p ≠ [] := by obtain ⟨y, e⟩ := Tri.ln_head full hr0 hp; rw [e]; simp
    refine d_cons (d_set 5 nd (DG.lst (dn_meth (ds' := cL (Tri.ln t p q)) F_line hr (dv 1) rfl (da_cons (dv 2) (da_cons (dv 3) da_nil)) ⟨W, Hh, a, b, kvs, t, p, q, tab, hp, hq, rfl, rfl⟩ (imm_cL _))) ?_)
    refine d_cons (d_set 6 nd (DG.lst (dn_meth (ds' := cL (Tri.ln t q r)) F_line hr (dv 1) rfl (da_cons (dv 3) (da_cons (dv 4) da_nil)) ⟨W, Hh, a, b, kvs, t, q, r, tab, hq, hr0, rfl, rfl⟩ (imm_cL _))) ?_)
    refine d_cons (d_set 7 nd (DG.lst (dn_meth (ds' := cL (Tri.ln t r p)) F_line hr (dv 1) rfl (da_cons (dv 4) (da_cons (dv 2) da_nil)) ⟨W, Hh, a, b, kvs, t, r, p, tab, hr0, hp, rfl, rfl⟩ (imm_cL _))) ?_)
    refine d_cons (d_set 8 nd (DG.lst (dn_call (ds' := cellsD W Hh (trW t p q r)) F_windings hr (da_cons (dv 1) (da_cons (dn_lst (ds := cL [p, q, r]) (da_cons (dv 2) (da_cons (dv 3) (da_cons (dv 4) da_nil))) rfl).lstW da_nil)) ⟨W, Hh, a, b, kvs, t, p, q, r, tab, hp, hq, hr0, rfl, rfl⟩ (immAll_map (fun _ => rfl) _))) ?_)
    have cl16 := cells_len (W := W) (H := Hh) (trW t p q r)
    have cn := cells_nodup W Hh (trW t p q r)
    have cg : ∀ c ∈ cellsF W Hh (trW t p q r), c ∈ gridC W Hh := fun c hc => (List.mem_filter.mp hc).1
    have sg : signF W Hh (trW t p q r) = match cellsF W Hh (trW t p q r) with | [] => 0 | z :: _ => trW t p q r z := rfl
    unfold trF
    rw [cellsD_eq]
    generalize cellsF W Hh (trW t p q r) = cells at cl16 cn cg sg ⊢
    generalize trW t p q r = F at sg ⊢
    generalize signF W Hh F = sgn at sg ⊢
    generalize hl1 : Tri.ln t p q = l1 at on1 le1 ne1 ⊢
    generalize hl2 : Tri.ln t q r = l2 at on2 le2 ne2 ⊢
    generalize hl3 : Tri.ln t r p = l3 at on3 le3 ne3 ⊢
    refine d_cons (d_setF 0 rfl hC.cls hC.ne (DG.strong (de_tup (da_cons (dv 2) (da_cons (dv 3) (da_cons (dv 4) da_nil)))) rfl) (Nat.le_of_ble_eq_true rfl) ?_)
    refine d_cons (d_setF 0 rfl hC.cls hC.nk (DG.strong (de_tup (da_cons (de_call F_last_common hr (da_cons (dv 5) (da_cons (dv 7) da_nil)) ⟨l1, l3, ne1, by omega, rfl, rfl⟩) (da_cons (de_call F_last_common hr (da_cons (dv 6) (da_cons (dv 5) da_nil)) ⟨l2, l1, ne2, by omega, rfl, rfl⟩) (da_cons (de_call F_last_common hr (da_cons (dv 7) (da_cons (dv 6) da_nil)) ⟨l3, l2, ne3, by omega, rfl, rfl⟩) da_nil)))) rfl) (Nat.le_of_ble_eq_true rfl) ?_)
    refine d_cons (d_setF 0 rfl hC.cls hC.nm (DG.strong (de_call F_common_of_three hr (da_cons (dv 5) (da_cons (dv 6) (da_cons (dv 7) da_nil))) ⟨l1, l2, l3, by omega, rfl, rfl⟩) (imm_opt _)) (Nat.le_of_ble_eq_true rfl) ?_)
    refine d_cons (d_setF 0 rfl hC.cls hC.ns (DG.strong de_int rfl) (Nat.le_of_ble_eq_true rfl) ?_)
    refine d_cons (DS.imp (P1 := fun o => o = .nx [.oo x C [("ends", .tup (cL [p, q, r])), ("knees", .tup (cL [kneeF l1 l3, kneeF l2 l1, kneeF l3 l2])), ("meeting", optD (comF l1 l2 l3)), ("sign", .int sgn)], .val (plD D W Hh a b kvs), .val (cD p), .val (cD q), .val (cD r), .val (.lst (cL l1)), .val (.lst (cL l2)), .val (.lst (cL l3)), .val (.lst (cells.map fun z => .tup [cD z, .int (F z)])), .no, .no]) ?_ ?_)
    · refine d_if (dt_cmp c_gt (de_lenL B.len (dv 8)) de_int rfl) (fun hb => ?_) (fun hb => d_nil ?_)
      · match cells, sg, hb with
        | [], _, hb => simp at hb
        | z :: cs, sg, _ =>
          refine d_one (d_setF 0 rfl hC.cls hC.ns (DG.strong (de_ixT (de_ixL (dv 8) de_int (by exact atI_nat (k := 0) rfl)) de_int (by rfl)) rfl) (Nat.le_of_ble_eq_true rfl) ?_)
          rw [sg]; rfl
      · match cells, sg, hb with
        | [], sg, _ => rw [sg]; rfl
        | z :: cs, _, hb => simp at hb
    rintro _ rfl
    have eo : outs (fun _ => true) (fun i => cD (gC cells i)) (cells.map fun z => Dt.tup [cD z, .int (F z)]).length = cL cells := by
      unfold outs
      rw [List.length_map, List.filter_eq_self.mpr (fun _ _ => rfl)]
      unfold cL
      refine List.ext_getElem (by simp) fun i h1 h2 => ?_
      have hi : i < cells.length := by simpa using h2
      simp [gC, List.getD_eq_getElem?_getD, List.getElem?_eq_getElem hi]
    refine d_cons (d_setF 0 (d := .tup (cL cells)) rfl hC.cls hC.nc (DG.strong (DG.cast (de_tupOf B.tuple (DG.lstW (dn_lc (own := [("cell", 9), ("number", 10)]) (js := [9] ++ ([10] ++ [])) (f := fun i ε => (ε.set 9 (.val (cD (gC cells i)))).set 10 (.val (.int (F (gC cells i))))) (fun _ => true) (fun i => cD (gC cells i)) _ (di_list (bv 8)) nd (blkOk_by rfl) ?_ (by decide) (fun i hi _ _ _ _ _ => dts_nil) (fun i hi _ _ _ _ _ _ => dv 9) (fun i hi _ => adds_E rfl) ?_ ?_))) ?_) (imm_cL _)) (Nat.le_of_ble_eq_true rfl) ?_)
    · intro i hi s' H' C' cl fp
      rw [List.length_map] at hi
      have e : cells[i]? = some (gC cells i) := by unfold gC; rw [List.getD_eq_getElem?_getD, List.getElem?_eq_getElem hi]; rfl
      have e2 : (cells.map fun z => Dt.tup [cD z, .int (F z)]).getD i .non = .tup [cD (gC cells i), .int (F (gC cells i))] := by rw [List.getD_eq_getElem?_getD, List.getElem?_map, e]; rfl
      rw [e2]
      exact tg_two 9 10 nd rfl
    · rw [List.length_map]; omega
    · rw [eo, imm_cL]; rfl
    · rw [eo]
    have il : (innF cells).length ≤ 16 := by
      have := List.length_filter_le (fun z => decide ((z.1 - 1, z.2 - 1) ∈ cells) && (decide ((z.1 - 1, z.2) ∈ cells) && decide ((z.1, z.2 - 1) ∈ cells))) cells
      unfold innF
      omega
    have w8 := tab.w8
    have h8 := tab.h8
    refine d_one (d_setF 0 (d := .tup (cL (cornF l1 l2 l3 cells))) rfl hC.cls hC.no (DG.strong (de_tupOf B.tuple (DG.lstW (dn_sset (l := l1 ++ l2 ++ l3 ++ innF cells) (u64 hr) B.sorted B.set (DG.cast (DG.lstW (dn_cat (ds := cL (l1 ++ l2 ++ l3)) (es := cL (innF cells)) (DG.cast (DG.lstW (dn_cat (ds := cL (l1 ++ l2)) (es := cL l3) (DG.cast (DG.lstW (dn_cat (ds := cL l1) (es := cL l2) (dv 5) (dv 6) ?_ ?_)) ?_) (dv 7) ?_ ?_)) ?_) (DG.lstW (dn_call (ds' := cL (innF cells)) F_inner_corners hr (da_cons (de_fld (d := .tup (cL cells)) hC.cls hC.nc (dv 0) rfl) da_nil) ⟨cells, cn, by omega, rfl, rfl⟩ (imm_cL _))) ?_ ?_)) ?_) ?_ ?_))) (imm_cL _)) (Nat.le_of_ble_eq_true rfl) ?_)
    · rw [cL_len, cL_len, sizeLine_eq]; omega
    · rw [cL_app]; exact imm_cL _
    · rw [cL_app]
    · rw [cL_len, cL_len, sizeLine_eq, List.length_append]; omega
    · rw [cL_app]; exact imm_cL _
    · rw [cL_app]
    · rw [cL_len, cL_len, sizeLine_eq, List.length_append, List.length_append]; omega
    · rw [cL_app]; exact imm_cL _
    · rw [cL_app]
    · rw [List.length_append, List.length_append, List.length_append]; omega
    · intro c hc
      have ob : Tri.onB (W : Nat) (Hh : Nat) c := by
        rcases List.mem_append.mp hc with h | h
        · rcases List.mem_append.mp h with h | h
          · rcases List.mem_append.mp h with h | h
            · exact on1 c h
            · exact on2 c h
          · exact on3 c h
        · have := gridC_mem.mp (cg c (List.mem_filter.mp h).1)
          unfold Tri.onB; omega
      unfold Tri.onB at ob
      omega
    · rfl
def R_Triangle_contains (C : Addr) (ds : List Dt) (d : Dt) : Prop := ∃ fs l c, fs.lookup ("corners" : Str) = some (.tup (cL l)) ∧ ds = [.obj C fs, cD c] ∧ d = .bl (decide (c ∈ l))
abbrev FD_Triangle_contains (T : List (Addr × Str)) (P : Program) (w : World) (K : PySem.W.Frag) (mg : Str → Option Value) (base : Heap) (C : Addr) : Prop := FnM T P w K mg base C "__contains__" 1 ["self", "corner"] (R_Triangle_contains C)
theorem f_Triangle_contains {C : Addr} (B : Bi mg) (h : HasM K C "__contains__" "Triangle.__contains__" s_Triangle_contains) (hC : TrC K C) : FD_Triangle_contains T P w K mg base C := by
  refine fnM_at (N := ["self", "corner"]) h ⟨rfl, rfl, rfl, by decide +kernel, rfl, by decide +kernel, by decide +kernel⟩ ?_ ?_
  · intro kV doc pm an cdv ct us hl
    match us, hl with
    | [u0, u1], _ => rfl
  · have nd : (["self", "corner"] : List Str).Nodup := by decide +kernel
    rintro f cdv A outer s H E ds d hr hl ⟨fs, l, c, hl0, rfl, rfl⟩
    exact d_one (d_ret (de_cmp (c_inT (u65 hr)) (dv 1) (de_fld hC.cls hC.no (dv 0) hl0) rfl) rfl)

def R_Triangle_area (C : Addr) (ds : List Dt) (d : Dt) : Prop := ∃ fs, ∃ l : List Co, ∃ sgn : Int, (sgn = 0 ∨ sgn = 1 ∨ sgn = -1) ∧ l.length ≤ 1000 ∧ fs.lookup ("sign" : Str) = some (.int sgn) ∧ fs.lookup ("cells" : Str) = some (.tup (cL l)) ∧ ds = [.obj C fs] ∧ d = .int (sgn * (l.length : Nat))
abbrev FD_Triangle_area (T : List (Addr × Str)) (P : Program) (w : World) (K : PySem.W.Frag) (mg : Str → Option Value) (base : Heap) (C : Addr) : Prop := FnG T P w K mg base C "area" 1 ["self"] (R_Triangle_area C)
theorem f_Triangle_area {C : Addr} (B : Bi mg) (hC : TrC K C) (h : HasP K C "area" "Triangle.area" s_Triangle_area) : FD_Triangle_area T P w K mg base C := by
  refine fnG_at (N := ["self"]) h ⟨rfl, rfl, rfl, by decide +kernel, rfl, by decide +kernel, by decide +kernel⟩ ?_ ?_
  · intro kV doc pm an cdv ct us hl
    match us, hl with
    | [u0], _ => rfl
  · rintro f cdv A outer s H E ds d hr hl ⟨fs, l, sgn, hs, l1000, e1, e2, rfl, rfl⟩
    exact d_one (d_ret (de_mul (de_fld hC.cls hC.ns (dv 0) e1) ((de_lenT B.len (de_fld hC.cls hC.nc (dv 0) e2)).cast (by rw [cL_len])) (.inl (by rcases hs with rfl | rfl | rfl <;> decide))) rfl)
end
end Cp
end
section
set_option maxHeartbeats 4000000
namespace Cp
open PySem PySem.Spec PyProof.Rows L2
theorem knee_fold (other : List Co) : ∀ (l : List Co) (f0 : Co), (l.foldl (fun f c => if c ∈ other then c else f) f0 = f0 ∧ ∀ c ∈ l, c ∉ other) ∨ ∃ (i : Nat) (c : Co), l[i]? = some c ∧ c ∈ other ∧ l.foldl (fun f c => if c ∈ other then c else f) f0 = c ∧ ∀ (j : Nat) (x : Co), i < j → l[j]? = some x → x ∉ other
  | [], f0 => .inl ⟨rfl, fun c h => by cases h⟩
  | a :: l, f0 => by
    rw [List.foldl_cons]
    rcases knee_fold other l (if a ∈ other then a else f0) with ⟨h1, h2⟩ | ⟨i, c, h1, h2, h3, h4⟩
    · by_cases ha : a ∈ other
      · rw [if_pos ha] at h1 ⊢
        refine .inr ⟨0, a, rfl, ha, h1, fun j x hj hx => ?_⟩
        obtain ⟨j, rfl⟩ : ∃ k, j = k + 1 := ⟨j - 1, by omega⟩
        exact h2 x (List.mem_of_getElem? (by simpa using hx))
      · rw [if_neg ha] at h1 ⊢
        refine .inl ⟨h1, fun c hc => ?_⟩
        rcases List.mem_cons.mp hc with e | hc
        · rw [e]; exact ha
        · exact h2 c hc
    · refine .inr ⟨i + 1, c, by simpa using h1, h2, h3, fun j x hj hx => ?_⟩
      obtain ⟨j, rfl⟩ : ∃ k, j = k + 1 := ⟨j - 1, by omega⟩
      exact h4 j x (by omega) (by simpa using hx)
section
variable {t : Co → Co → Tri.L} {W H : Nat} {p q r : Co}
theorem knee_is (c : Tri.Full t (W : Nat) (H : Nat)) (hp : Tri.onB (W : Nat) (H : Nat) p) (hq : Tri.onB (W : Nat) (H : Nat) q) (hr : Tri.onB (W : Nat) (H : Nat) r) : Tri.Knee t p q r (kneeF (Tri.ln t p q) (Tri.ln t r p)) := by
  have hp2 : p ∈ Tri.ln t r p := Tri.ln_end c hr hp
  rcases knee_fold (Tri.ln t r p) (Tri.ln t p q) ((Tri.ln t p q).getD 0 (0, 0)) with ⟨_, h2⟩ | ⟨i, k, h1, h2, h3, h4⟩
  · exact absurd hp2 (h2 p (Tri.ln_start c hp hq))
  · have e : kneeF (Tri.ln t p q) (Tri.ln t r p) = k := h3
    rw [e]
    refine ⟨List.mem_of_getElem? h1, h2, fun x hx hx2 => ?_⟩
    obtain ⟨j, hj⟩ := List.getElem?_of_mem hx
    rw [Tri.ln_idx c hp hq h1, Tri.ln_idx c hp hq hj]
    rcases Nat.lt_or_ge i j with g | g
    · exact absurd hx2 (h4 j x g hj)
    · exact g
def shF (t : Co → Co → Tri.L) (p q r : Co) : List Co := (Tri.ln t p q).filter fun c => decide (c ∈ Tri.ln t q r) && decide (c ∈ Tri.ln t r p)
theorem shF_mem {x : Co} : x ∈ shF t p q r ↔ x ∈ Tri.ln t p q ∧ x ∈ Tri.ln t q r ∧ x ∈ Tri.ln t r p := by
  unfold shF
  rw [List.mem_filter, Bool.and_eq_true, decide_eq_true_iff, decide_eq_true_iff]
theorem comF_sh : comF (Tri.ln t p q) (Tri.ln t q r) (Tri.ln t r p) = (shF t p q r).head? := by
  unfold comF shF
  rw [List.head?_filter]
def coreF (t : Co → Co → Tri.L) (p q r : Co) : List Co := cwF t [kneeF (Tri.ln t p q) (Tri.ln t r p), kneeF (Tri.ln t q r) (Tri.ln t p q), kneeF (Tri.ln t r p) (Tri.ln t q r)]
theorem shF_one (c : Tri.Full t (W : Nat) (H : Nat)) (hp : Tri.onB (W : Nat) (H : Nat) p) (hq : Tri.onB (W : Nat) (H : Nat) q) (hr : Tri.onB (W : Nat) (H : Nat) r) : shF t p q r = [] ∨ ∃ m, shF t p q r = [m] := by
  have nd : (shF t p q r).Nodup := (Tri.ln_nodup c hp hq).filter _
  have one : ∀ x ∈ shF t p q r, ∀ y ∈ shF t p q r, x = y := fun x hx y hy => by
    obtain ⟨a1, a2, a3⟩ := shF_mem.mp hx
    obtain ⟨b1, b2, b3⟩ := shF_mem.mp hy
    exact Tri.meet_one c hp hq hr a1 a2 a3 b1 b2 b3
  match hs : shF t p q r, nd, one with
  | [], _, _ => exact .inl rfl
  | [m], _, _ => exact .inr ⟨m, rfl⟩
  | m :: m' :: l, nd, one =>
    have := one m (by simp) m' (by simp)
    subst this
    simp at nd
/-- one corner on all three lines -/
theorem tri_meet (c : Tri.Full t (W : Nat) (H : Nat)) (hp : Tri.onB (W : Nat) (H : Nat) p) (hq : Tri.onB (W : Nat) (H : Nat) q) (hr : Tri.onB (W : Nat) (H : Nat) r) {m : Co} (h : shF t p q r = [m]) :
    comF (Tri.ln t p q) (Tri.ln t q r) (Tri.ln t r p) = some m ∧ kneeF (Tri.ln t p q) (Tri.ln t r p) = m ∧ kneeF (Tri.ln t q r) (Tri.ln t p q) = m ∧ kneeF (Tri.ln t r p) (Tri.ln t q r) = m ∧ (∀ z, trW t p q r z = 0) ∧ coreF t p q r = [m] := by
  obtain ⟨a1, a2, a3⟩ := shF_mem.mp (show m ∈ shF t p q r by rw [h]; simp)
  obtain ⟨k1, k2⟩ := Tri.knee_meet c hp hq hr (knee_is c hp hq hr) (knee_is c hq hr hp) a1 a2 a3
  obtain ⟨_, k3⟩ := Tri.knee_meet c hq hr hp (knee_is c hq hr hp) (knee_is c hr hp hq) a2 a3 a1
  refine ⟨by rw [comF_sh, h]; rfl, k1, k2, k3, fun z => ?_, ?_⟩
  · unfold trW
    rw [cw3_W c hp hq hr]
    exact Tri.meet_zero c hp hq hr a1 a2 a3 z
  · unfold coreF
    rw [k1, k2, k3, cwF3]
    have : Tri.cl3 t m m m = [] := by unfold Tri.cl3; rw [Tri.ln_self]; rfl
    rw [if_pos this]
theorem tri_free (c : Tri.Full t (W : Nat) (H : Nat)) (hp : Tri.onB (W : Nat) (H : Nat) p) (hq : Tri.onB (W : Nat) (H : Nat) q) (hr : Tri.onB (W : Nat) (H : Nat) r) (h : shF t p q r = []) :
    comF (Tri.ln t p q) (Tri.ln t q r) (Tri.ln t r p) = none ∧ (∀ z, windF (coreF t p q r) z = trW t p q r z) ∧ (coreF t p q r).Nodup ∧ 4 ≤ (coreF t p q r).length ∧ ∃ s : Int, (s = 1 ∨ s = -1) ∧ (∀ z, trW t p q r z = 0 ∨ trW t p q r z = s) ∧ ∃ z ∈ gridC W H, trW t p q r z = s := by
  have no : ∀ z, z ∈ Tri.ln t p q → z ∈ Tri.ln t q r → z ∈ Tri.ln t r p → False := fun z a1 a2 a3 => by
    have := shF_mem.mpr ⟨a1, a2, a3⟩
    rw [h] at this; cases this
  have K1 := knee_is c hp hq hr
  have K2 := knee_is c hq hr hp
  have K3 := knee_is c hr hp hq
  obtain ⟨w, n, l⟩ := Tri.core c hp hq hr K1 K2 K3 no
  have o1 := Tri.ln_on c hp hq K1.a
  have o2 := Tri.ln_on c hq hr K2.a
  have o3 := Tri.ln_on c hr hp K3.a
  have ne : Tri.cl3 t (kneeF (Tri.ln t p q) (Tri.ln t r p)) (kneeF (Tri.ln t q r) (Tri.ln t p q)) (kneeF (Tri.ln t r p) (Tri.ln t q r)) ≠ [] := fun z => by rw [z] at l; simp at l
  have ec : coreF t p q r = Tri.cl3 t (kneeF (Tri.ln t p q) (Tri.ln t r p)) (kneeF (Tri.ln t q r) (Tri.ln t p q)) (kneeF (Tri.ln t r p) (Tri.ln t q r)) := by
    unfold coreF
    rw [cwF3, if_neg ne]
  refine ⟨by rw [comF_sh, h]; rfl, fun z => ?_, by rw [ec]; exact n, by rw [ec]; exact l, ?_⟩
  · unfold coreF trW
    rw [cw3_W c o1 o2 o3, cw3_W c hp hq hr, w]
  · obtain ⟨s, hs, h1, x, k, g1, g2, g3, g4, g5⟩ := Tri.one_sign c hp hq hr no
    refine ⟨s, hs, fun z => ?_, (x, k), gridC_mem.mpr ⟨g1, g2, g3, g4⟩, ?_⟩
    · unfold trW
      rw [cw3_W c hp hq hr]
      exact h1 z.1 z.2
    · unfold trW
      rw [cw3_W c hp hq hr]
      exact g5
theorem sign_zero {F : Co → Int} (h : ∀ z, F z = 0) : cellsF W H F = [] ∧ signF W H F = 0 := by
  have e : cellsF W H F = [] := List.filter_eq_nil_iff.mpr fun z _ => by rw [h z]; decide
  refine ⟨e, ?_⟩
  unfold signF
  rw [e]
theorem sign_one {F : Co → Int} {s : Int} (hs : s = 1 ∨ s = -1) (h1 : ∀ z, F z = 0 ∨ F z = s) (h2 : ∃ z ∈ gridC W H, F z = s) : cellsF W H F ≠ [] ∧ signF W H F = s := by
  have s0 : s ≠ 0 := by rcases hs with rfl | rfl <;> decide
  obtain ⟨z, hz, e⟩ := h2
  have hm : z ∈ cellsF W H F := List.mem_filter.mpr ⟨hz, by rw [e, decide_eq_false s0]; rfl⟩
  have ne : cellsF W H F ≠ [] := fun q => by rw [q] at hm; cases hm
  refine ⟨ne, ?_⟩
  unfold signF
  match hc : cellsF W H F, ne with
  | [], ne => exact absurd rfl ne
  | y :: l, _ =>
    have hy : y ∈ cellsF W H F := by rw [hc]; simp
    have := (List.mem_filter.mp hy).2
    rcases h1 y with q | q
    · rw [q] at this; simp at this
    · exact q
theorem cells_wanted {F : Co → Int} {s : Int} (h1 : ∀ z, F z = 0 ∨ F z = s) {z : Co} (hz : z ∈ gridC W H) : F z = if z ∈ cellsF W H F then s else 0 := by
  by_cases hm : z ∈ cellsF W H F
  · rw [if_pos hm]
    have := (List.mem_filter.mp hm).2
    rcases h1 z with q | q
    · rw [q] at this; simp at this
    · exact q
  · rw [if_neg hm]
    by_cases q : F z = 0
    · exact q
    · exact absurd (List.mem_filter.mpr ⟨hz, by simp [q]⟩) hm
/-- the triangle's corners -/
theorem corn_eq (c : Tri.Full t (W : Nat) (H : Nat)) (hp : Tri.onB (W : Nat) (H : Nat) p) (hq : Tri.onB (W : Nat) (H : Nat) q) (hr : Tri.onB (W : Nat) (H : Nat) r) (F : Co → Int) :
    cornF (Tri.ln t p q) (Tri.ln t q r) (Tri.ln t r p) (cellsF W H F) = (gridC (W + 1) (H + 1)).filter fun z => decide (z ∈ Tri.ln t p q ++ Tri.ln t q r ++ Tri.ln t r p) || insideF z (cellsF W H F) := by
  unfold cornF
  refine sorted_ext (srt_sorted _) ((gridC_sorted _ _).filter _) fun x => ?_
  have cg : ∀ y, y ∈ cellsF W H F → y ∈ gridC W H := fun y hy => (List.mem_filter.mp hy).1
  rw [srt_mem, List.mem_filter, List.mem_append, Bool.or_eq_true, decide_eq_true_iff]
  have ei : x ∈ innF (cellsF W H F) ↔ insideF x (cellsF W H F) = true := by
    unfold innF insideF
    rw [List.mem_filter]
    simp only [Bool.and_eq_true, decide_eq_true_iff]
    constructor
    · rintro ⟨a, b, d, e⟩; exact ⟨b, d, e, a⟩
    · rintro ⟨b, d, e, a⟩; exact ⟨a, b, d, e⟩
  rw [ei]
  constructor
  · intro h
    refine ⟨gridC_mem.mpr ?_, h⟩
    rcases h with h | h
    · have ob : Tri.onB (W : Nat) (H : Nat) x := by
        rcases List.mem_append.mp h with h | h
        · rcases List.mem_append.mp h with h | h
          · exact Tri.ln_on c hp hq h
          · exact Tri.ln_on c hq hr h
        · exact Tri.ln_on c hr hp h
      unfold Tri.onB at ob
      omega
    · have := gridC_mem.mp (cg x (List.mem_filter.mp (ei.mpr h)).1)
      omega
  · exact fun h => h.2
end
end Cp
end
section
set_option maxHeartbeats 4000000
namespace Cp
open PySem PySem.Spec PyProof.Rows L2

open PySem.W LamX
theorem outs_gC (b : Co → Bool) (g : Co → Dt) (l : List Co) : outs (fun i => b (gC l i)) (fun i => g (gC l i)) l.length = (l.filter b).map g := by
  rw [← outs_opt]
  unfold outs
  have e : ∀ i, i < l.length → l[i]? = some (gC l i) := fun i hi => by unfold gC; rw [List.getD_eq_getElem?_getD, List.getElem?_eq_getElem hi]; rfl
  have e1 : (List.range l.length).filter (fun i => b (gC l i)) = (List.range l.length).filter (fun i => (l[i]?).any b) := List.filter_congr fun i hi => by rw [e i (List.mem_range.mp hi)]; rfl
  rw [e1]
  exact List.map_congr_left fun i hi => by rw [e i (List.mem_range.mp (List.mem_filter.mp hi).1)]; rfl
theorem gridC_key {W H : Nat} {F : Co → Int} : (kvL (gridC W H) F).map (fun kv => kd kv.1) = cL (gridC W H) := by
  unfold kvL cL
  rw [List.map_map]; rfl
theorem sort_grid {W H : Nat} {F : Co → Int} : ((kvL (gridC W H) F).map fun kv => kd kv.1).mergeSort dle = cL (gridC W H) := by
  rw [gridC_key]
  have e : (cL (gridC W H)).mergeSort dle = cL ((gridC W H).mergeSort (leG kC)) := (List.map_mergeSort (r := leG kC) (s := dle) (f := cD) fun a _ b _ => rfl).symm
  rw [e]
  congr 1
  exact sorted_ext (sort_lt (gridC_nodup H W)) (gridC_sorted H W) fun x => (List.mergeSort_perm _ _).mem_iff
section
variable {T : List (Addr × Str)} {P : Program} {w : World} {K : PySem.W.Frag} {mg : Str → Option Value} {base : Heap}
def R_law_has_one_sign (C : Addr) (ds : List Dt) (d : Dt) : Prop := ∃ W H kvs t p q r, Tab kvs t W H ∧ W * H ≤ 16 ∧ Tri.onB (W : Nat) (H : Nat) p ∧ Tri.onB (W : Nat) (H : Nat) q ∧ Tri.onB (W : Nat) (H : Nat) r ∧ ds = [.obj C (trF W H t p q r), bD W H, .dic kvs, .lst [.lst (cL (Tri.ln t p q)), .lst (cL (Tri.ln t q r)), .lst (cL (Tri.ln t r p))], .dic (kvL (gridC W H) (trW t p q r))] ∧ d = .bl true
abbrev FD_law_has_one_sign (T : List (Addr × Str)) (P : Program) (w : World) (K : PySem.W.Frag) (mg : Str → Option Value) (base : Heap) (C : Addr) : Prop := FnD T P w K mg base "_law_has_one_sign" 5 ["_law_told", "_law_board_here", "_law_table", "_law_lines", "_law_winds_here"] (R_law_has_one_sign C)
theorem f_law_has_one_sign {C : Addr} (B : Bi mg) (h : Has K mg "_law_has_one_sign" "_law_has_one_sign" s_law_has_one_sign) (F_law_chain_walk : FD_law_chain_walk T P w K mg base) (F_law_winds : FD_law_winds T P w K mg base) (F_law_is_corner : FD_law_is_corner T P w K mg base) (F_law_has_double : FD_law_has_double T P w K mg base) (hC : TrC K C) : FD_law_has_one_sign T P w K mg base C := by
  refine fnD_at (N := ["_law_told", "_law_board_here", "_law_table", "_law_lines", "_law_winds_here", "_law_shared", "_law_core", "_law_spot", "_law_wanted", "_law_corner"]) h ⟨rfl, rfl, rfl, by decide +kernel, rfl, by decide +kernel, by decide +kernel⟩ ?_ ?_
  · intro kV doc pm an cdv ct us hl
    match us, hl with
    | [u0, u1, u2, u3, u4], _ => rfl
  · have nd : (["_law_told", "_law_board_here", "_law_table", "_law_lines", "_law_winds_here", "_law_shared", "_law_core", "_law_spot", "_law_wanted", "_law_corner"] : List Str).Nodup := by decide +kernel
    rintro f cdv A outer s H E ds d hr hl ⟨W, Hh, kvs, t, p, q, r, tab, wh, hp, hq, hr0, rfl, rfl⟩
    have full := tab.full
    refine d_cons (d_setLc 5 (own := [("_law_corner", 9)]) (js := [9]) (f := fun i ε => ε.set 9 (.val (cD (gC (Tri.ln t p q) i)))) (fun i => decide (gC (Tri.ln t p q) i ∈ Tri.ln t q r) && decide (gC (Tri.ln t p q) i ∈ Tri.ln t r p)) (fun i => cD (gC (Tri.ln t p q) i)) _ (di_list (ds := cL (Tri.ln t p q)) (DG.strongN (de_ixL (dv 3) de_int rfl) rfl)) nd (blkOk_by rfl) ?_ (by decide) ?_ (fun i hi _ _ _ _ _ _ => dv 9) (fun i hi _ => adds_E rfl) ?_ (by rw [Bool.or_eq_true]; exact .inr rfl) ?_)
    · intro i hi s' H' C' cl fp
      rw [cL_len] at hi
      rw [cL_get hi]
      exact tg_name 9 nd
    · intro i hi s' H' C' cl fp
      exact dts_one (dw_and (dt_cmp (c_inL (u65 hr)) (dv 9) (de_ixL (dv 3) de_int rfl) rfl) fun _ => dw_and1 (dt_cmp (c_inL (u65 hr)) (dv 9) (de_ixL (dv 3) de_int rfl) rfl)).dt
    · rw [cL_len, Tri.ln_len full hp hq]
      have := dist_le tab.w8 tab.h8 hp hq
      omega
    have eo : outs (fun i => decide (gC (Tri.ln t p q) i ∈ Tri.ln t q r) && decide (gC (Tri.ln t p q) i ∈ Tri.ln t r p)) (fun i => cD (gC (Tri.ln t p q) i)) (cL (Tri.ln t p q)).length = cL (shF t p q r) := by
      rw [cL_len]
      exact outs_gC (fun c => decide (c ∈ Tri.ln t q r) && decide (c ∈ Tri.ln t r p)) cD (Tri.ln t p q)
    rw [eo]
    have K1 := knee_is full hp hq hr0
    have K2 := knee_is full hq hr0 hp
    have K3 := knee_is full hr0 hp hq
    have o1 := Tri.ln_on full hp hq K1.a
    have o2 := Tri.ln_on full hq hr0 K2.a
    have o3 := Tri.ln_on full hr0 hp K3.a
    have w8 := tab.w8
    have h8 := tab.h8
    have cwl : (coreF t p q r).length ≤ 48 := by
      have := cwP_len (chain := [kneeF (Tri.ln t p q) (Tri.ln t r p), kneeF (Tri.ln t q r) (Tri.ln t p q), kneeF (Tri.ln t r p) (Tri.ln t q r)]) full w8 h8 (by simp [o1, o2, o3]) 3 (Nat.le_refl _)
      rw [cwP3] at this
      unfold coreF
      rw [cwF3]
      split
      · simp
      · omega
    have con : ∀ x ∈ coreF t p q r, Tri.onB (W : Nat) (Hh : Nat) x := cw3_on full o1 o2 o3
    have cne : coreF t p q r ≠ [] := cw3_ne
    refine d_cons (d_set 6 nd (DG.lst (dn_call (ds' := cL (coreF t p q r)) F_law_chain_walk hr (da_cons (dv 2) (da_cons (de_fld hC.cls hC.nk (dv 0) rfl) da_nil)) ⟨kvs, t, W, Hh, [kneeF (Tri.ln t p q) (Tri.ln t r p), kneeF (Tri.ln t q r) (Tri.ln t p q), kneeF (Tri.ln t r p) (Tri.ln t q r)], _, tab, by simp, by simp, by simp [o1, o2, o3], .inr rfl, rfl, rfl⟩ (imm_cL _))) ?_)
    have wz : ∀ z, windF (coreF t p q r) z = trW t p q r z := fun z => by
      rcases shF_one full hp hq hr0 with h | ⟨m, h⟩
      · exact (tri_free full hp hq hr0 h).2.1 z
      · obtain ⟨_, _, _, _, h0, hc⟩ := tri_meet full hp hq hr0 h
        rw [h0, hc]
        show windK [m] z 0 + Tri.om (gC [m] 0) (gC [m] ((0 + 1) % 1)) z = 0
        show 0 + Tri.om m m z = 0
        unfold Tri.om
        split <;> omega
    have shl : (shF t p q r).length ≤ 1 := by
      rcases shF_one full hp hq hr0 with h | ⟨m, h⟩ <;> rw [h] <;> simp
    refine d_cons (d_ifF ((dw_or (dt_cmp c_gt (de_lenL B.len (dv 5)) de_int rfl) fun _ => dw_or1 (dt_cmp (c_neDic (kws := kvL (gridC W Hh) (windF (coreF t p q r))) (u64 hr) ?_ ?_) (dv 4) (de_call F_law_winds hr (da_cons (dv 1) (da_cons (dv 6) da_nil)) ⟨W, Hh, coreF t p q r, w8, h8, cne, by omega, con, rfl, rfl⟩) rfl)).dt.cast ?_) (d_nil ?_))
    · rw [kvL_len, kvL_len]
    · intro x hx
      unfold kvL at hx
      obtain ⟨z, hz, rfl⟩ := List.mem_map.mp hx
      refine ⟨_, rfl, ?_⟩
      unfold kvL
      exact List.mem_map.mpr ⟨z, hz, by rw [wz]⟩
    · rw [cL_len, Bool.or_false]
      exact decide_eq_false (by omega)
    have fin : ∃ sgn : Int, signF W Hh (trW t p q r) = sgn ∧ ∀ z ∈ gridC W Hh, trW t p q r z = if z ∈ cellsF W Hh (trW t p q r) then sgn else 0 := by
      rcases shF_one full hp hq hr0 with h | ⟨m, h⟩
      · obtain ⟨_, _, _, _, s, hs, g1, g2⟩ := tri_free full hp hq hr0 h
        exact ⟨s, (sign_one hs g1 g2).2, fun z hz => cells_wanted g1 hz⟩
      · obtain ⟨_, _, _, _, h0, _⟩ := tri_meet full hp hq hr0 h
        exact ⟨0, (sign_zero h0).2, fun z hz => by rw [h0 z]; split <;> rfl⟩
    refine d_cons (DS.imp (P1 := fun o => o = .nx [.val (.obj C (trF W Hh t p q r)), .val (bD W Hh), .val (.dic kvs), .val (.lst [.lst (cL (Tri.ln t p q)), .lst (cL (Tri.ln t q r)), .lst (cL (Tri.ln t r p))]), .val (.dic (kvL (gridC W Hh) (trW t p q r))), .val (.lst (cL (shF t p q r))), .val (.lst (cL (coreF t p q r))), .no, .no, .no]) ?_ ?_)
    · rcases shF_one full hp hq hr0 with h | ⟨m, h⟩
      · obtain ⟨f1, f2, f3, f4, s, hs, g1, g2⟩ := tri_free full hp hq hr0 h
        obtain ⟨c1, c2⟩ := sign_one (W := W) (H := Hh) hs g1 g2
        have c3 := List.length_pos_iff.mpr c1
        refine d_ifF ((dt_cmp c_eqI (de_lenL B.len (dv 5)) de_int rfl).cast (by rw [cL_len, h]; rfl)) ?_
        refine d_cons (d_ifF ((dw_or (dt_cmp c_notN ((de_fld (d := optD (comF (Tri.ln t p q) (Tri.ln t q r) (Tri.ln t r p))) hC.cls hC.nm (dv 0) rfl).cast (d1 := .non) (by rw [f1]; rfl)) de_non rfl) fun _ => dw_or (dt_cmp (c_ninTP (d1 := .int s) (ds := [.int (-1), .int 1]) (u65 hr) rfl rfl rfl rfl) ((de_fld (d := .int (signF W Hh (trW t p q r))) hC.cls hC.ns (dv 0) rfl).cast (d1 := .int s) (by rw [c2])) (de_tup (da_cons (de_neg de_int) (da_cons de_int da_nil))) rfl) fun _ => dw_or1 (dt_cmp c_eqI (de_lenT B.len (de_fld (d := .tup (cL (cellsF W Hh (trW t p q r)))) hC.cls hC.nc (dv 0) rfl)) de_int rfl)).dt.cast ?_) (d_nil ?_))
        · rw [cL_len, decide_eq_false (show ¬ (((cellsF W Hh (trW t p q r)).length : Nat) : Int) = 0 by omega)]
          rcases hs with rfl | rfl <;> rfl
        refine d_one (d_ifF ((dw_or (dt_cmp c_lt (de_lenL B.len (dv 6)) de_int rfl) fun _ => dw_or1 (dt_val (de_call F_law_has_double hr (da_cons (dv 6) da_nil) ⟨coreF t p q r, f3, by omega, rfl, rfl⟩))).dt.cast ?_) (d_nil rfl))
        rw [cL_len, decide_eq_false (by omega)]; rfl
      · obtain ⟨f1, f2, f3, f4, h0, f5⟩ := tri_meet full hp hq hr0 h
        obtain ⟨c1, c2⟩ := sign_zero (W := W) (H := Hh) h0
        have s0 : ∀ {pos : Pos} {pn : Pos} {k : Nat} {pc : Pos}, DE T (bodyX P w K mg base ["_law_told", "_law_board_here", "_law_table", "_law_lines", "_law_winds_here", "_law_shared", "_law_core", "_law_spot", "_law_wanted", "_law_corner"] "_law_has_one_sign" s_law_has_one_sign f cdv A outer s H E) [.val (.obj C (trF W Hh t p q r)), .val (bD W Hh), .val (.dic kvs), .val (.lst [.lst (cL (Tri.ln t p q)), .lst (cL (Tri.ln t q r)), .lst (cL (Tri.ln t r p))]), .val (.dic (kvL (gridC W Hh) (trW t p q r))), .val (.lst (cL (shF t p q r))), .val (.lst (cL (coreF t p q r))), .no, .no, .no] (.Subscript (.Name "_law_shared" pn) (.Constant (.int 0) k pc) pos) (cD m) := by
          intro pos pn k pc
          exact de_ixL (dv 5) de_int (by rw [h]; rfl)
        refine d_ifT ((dt_cmp c_eqI (de_lenL B.len (dv 5)) de_int rfl).cast (by rw [cL_len, h]; rfl)) ?_
        refine d_cons (d_ifF ((dw_or (dt_not (dt_val (de_call F_law_is_corner hr (da_cons ((de_fld (d := optD (comF (Tri.ln t p q) (Tri.ln t q r) (Tri.ln t r p))) hC.cls hC.nm (dv 0) rfl).cast (d1 := cD m) (by rw [f1]; rfl)) da_nil) ⟨m, rfl, rfl⟩))) fun _ => dw_or (dt_cmp (c_neC (u64 hr)) ((de_fld (d := optD (comF (Tri.ln t p q) (Tri.ln t q r) (Tri.ln t r p))) hC.cls hC.nm (dv 0) rfl).cast (d1 := cD m) (by rw [f1]; rfl)) s0 rfl) fun _ => dw_or1 (dt_cmp c_neI ((de_fld (d := .int (signF W Hh (trW t p q r))) hC.cls hC.ns (dv 0) rfl).cast (d1 := .int 0) (by rw [c2])) de_int rfl)).dt.cast (by simp)) (d_nil ?_))
        refine d_one (d_ifF ((dt_cmp (c_neP (d1 := .tup (cL [m, m, m])) (d2 := .tup [cD m, cD m, cD m]) (u64 hr) rfl rfl rfl rfl) ((de_fld (d := .tup (cL [kneeF (Tri.ln t p q) (Tri.ln t r p), kneeF (Tri.ln t q r) (Tri.ln t p q), kneeF (Tri.ln t r p) (Tri.ln t q r)])) hC.cls hC.nk (dv 0) rfl).cast (d1 := .tup (cL [m, m, m])) (by rw [f2, f3, f4])) (de_tup (da_cons s0 (da_cons s0 (da_cons s0 da_nil)))) rfl).cast ?_) (d_nil rfl))
        show (!(PyData.eqv (py (cD m)) (py (cD m)) && (PyData.eqv (py (cD m)) (py (cD m)) && (PyData.eqv (py (cD m)) (py (cD m)) && true)))) = false
        rw [eqv_c]; simp
    rintro _ rfl
    obtain ⟨sgn, es, ew⟩ := fin
    have gl : (gridC W Hh).length ≤ 100000 := by rw [gridC_len]; omega
    refine d_cons (d_for (di_list (ds := cL (gridC W Hh)) (DG.lst (by rw [← sort_grid (F := trW t p q r)]; exact dn_sortedD (u64 hr) B.sorted (dv 4) (by rw [gridC_key]; exact srtC_ok _ gl)))) (fun i hi => tg_name 7 nd) (fun i ε => ∃ s7 s8, ε = [.val (.obj C (trF W Hh t p q r)), .val (bD W Hh), .val (.dic kvs), .val (.lst [.lst (cL (Tri.ln t p q)), .lst (cL (Tri.ln t q r)), .lst (cL (Tri.ln t r p))]), .val (.dic (kvL (gridC W Hh) (trW t p q r))), .val (.lst (cL (shF t p q r))), .val (.lst (cL (coreF t p q r))), s7, s8, .no]) ⟨_, _, rfl⟩ ?_ ?_)
    · rintro i ε' hi ⟨s7, s8, rfl⟩
      rw [cL_len] at hi
      rw [cL_get hi]
      have hz : (gridC W Hh).getD i (0, 0) ∈ gridC W Hh := gC_mem hi
      generalize (gridC W Hh).getD i (0, 0) = z at hz
      have e1 := ew z hz
      refine d_cons (d_set 8 nd (DG.strong de_int rfl) ?_)
      by_cases hm : z ∈ cellsF W Hh (trW t p q r)
      · rw [if_pos hm] at e1
        refine d_cons (d_ifT ((dt_cmp (c_inT (l := cellsF W Hh (trW t p q r)) (u65 hr)) (dv 7) (de_fld hC.cls hC.nc (dv 0) rfl) rfl).cast (decide_eq_true hm)) (d_one (d_set 8 nd (DG.strong (de_fld (d := .int (signF W Hh (trW t p q r))) hC.cls hC.ns (dv 0) rfl) rfl) ?_)))
        refine d_one (d_ifF ((dt_cmp c_neI (de_dget (kC z) (u9 hr) (dv 4) (dv 7) (kvL_get hz)) (dv 8) rfl).cast ?_) (d_nil ⟨_, _, rfl⟩))
        rw [e1, es]; simp
      · rw [if_neg hm] at e1
        refine d_cons (d_ifF ((dt_cmp (c_inT (l := cellsF W Hh (trW t p q r)) (u65 hr)) (dv 7) (de_fld hC.cls hC.nc (dv 0) rfl) rfl).cast (decide_eq_false hm)) (d_nil ?_))
        refine d_one (d_ifF ((dt_cmp c_neI (de_dget (kC z) (u9 hr) (dv 4) (dv 7) (kvL_get hz)) (dv 8) rfl).cast ?_) (d_nil ⟨_, _, rfl⟩))
        rw [e1]; rfl
    · rintro ε' ⟨s7, s8, rfl⟩
      exact d_one (d_ret de_bl rfl)
end
end Cp
end
section
set_option maxHeartbeats 4000000
namespace Cp
open PySem PySem.Spec PyProof.Rows L2

open PySem.W LamX
def eC (p q r : Co) (i : Nat) : Co := gC [p, q, r] i
section
variable {T : List (Addr × Str)} {P : Program} {w : World} {K : PySem.W.Frag} {mg : Str → Option Value} {base : Heap}
def R_law_is_triangle (C : Addr) (ds : List Dt) (d : Dt) : Prop := ∃ W H kvs t p q r, Tab kvs t W H ∧ W + H ≤ 10 ∧ W * H ≤ 16 ∧ Tri.onB (W : Nat) (H : Nat) p ∧ Tri.onB (W : Nat) (H : Nat) q ∧ Tri.onB (W : Nat) (H : Nat) r ∧ ds = [.obj C (trF W H t p q r), bD W H, .dic kvs, .lst (cL [p, q, r])] ∧ d = .bl true
abbrev FD_law_is_triangle (T : List (Addr × Str)) (P : Program) (w : World) (K : PySem.W.Frag) (mg : Str → Option Value) (base : Heap) (C : Addr) : Prop := FnD T P w K mg base "_law_is_triangle" 6 ["_law_told", "_law_board_here", "_law_table", "_law_ends_here"] (R_law_is_triangle C)
theorem f_law_is_triangle {C : Addr} (B : Bi mg) (h : Has K mg "_law_is_triangle" "_law_is_triangle" s_law_is_triangle) (F_law_line : FD_law_line T P w K mg base) (F_law_knee : FD_law_knee T P w K mg base) (F_law_winds : FD_law_winds T P w K mg base) (F_law_chain_walk : FD_law_chain_walk T P w K mg base) (F_law_is_path : FD_law_is_path T P w K mg base) (F_law_is_integer : FD_law_is_integer T P w K mg base) (F_law_all_corners : FD_law_all_corners T P w K mg base) (F_law_is_inside : FD_law_is_inside T P w K mg base) (F_law_has_one_sign : FD_law_has_one_sign T P w K mg base C) (F_Triangle_contains : FD_Triangle_contains T P w K mg base C) (F_Triangle_area : FD_Triangle_area T P w K mg base C) (hC : TrC K C) : FD_law_is_triangle T P w K mg base C := by
  refine fnD_at (N := ["_law_told", "_law_board_here", "_law_table", "_law_ends_here", "_law_lines", "_law_knees", "_law_winds_here", "_law_cells", "_law_every", "_law_sides", "_law_corners", "_law_corner", "_law_k", "_law_spot"]) h ⟨rfl, rfl, rfl, by decide +kernel, rfl, by decide +kernel, by decide +kernel⟩ ?_ ?_
  · intro kV doc pm an cdv ct us hl
    match us, hl with
    | [u0, u1, u2, u3], _ => rfl
  · have nd : (["_law_told", "_law_board_here", "_law_table", "_law_ends_here", "_law_lines", "_law_knees", "_law_winds_here", "_law_cells", "_law_every", "_law_sides", "_law_corners", "_law_corner", "_law_k", "_law_spot"] : List Str).Nodup := by decide +kernel
    rintro f cdv A outer s H E ds d hr hl ⟨W, Hh, kvs, t, p, q, r, tab, wh10, wh, hp, hq, hr0, rfl, rfl⟩
    have full := tab.full
    have w8 := tab.w8
    have h8 := tab.h8
    have on : ∀ i, i < 3 → Tri.onB (W : Nat) (Hh : Nat) (eC p q r i) := fun i hi => by
      match i, hi with
      | 0, _ => exact hp
      | 1, _ => exact hq
      | 2, _ => exact hr0
    refine d_cons (d_set 4 nd (DG.lst (dn_lc (own := [("_law_k", 12)]) (js := [12]) (f := fun i ε => ε.set 12 (.val (.int (i : Nat)))) (fun _ => true) (fun i => .lst (cL (Tri.ln t (eC p q r i) (eC p q r ((i + 1) % 3))))) (fun i => gN (bodyX P w K mg base ["_law_told", "_law_board_here", "_law_table", "_law_ends_here", "_law_lines", "_law_knees", "_law_winds_here", "_law_cells", "_law_every", "_law_sides", "_law_corners", "_law_corner", "_law_k", "_law_spot"] "_law_is_triangle" s_law_is_triangle f cdv A outer s H E) (cL (Tri.ln t (eC p q r i) (eC p q r ((i + 1) % 3))))) (di_range1 B.range de_int (by omega)) nd (blkOk_by rfl) (fun i hi _ _ _ _ _ => tg_name 12 nd) (by decide) (fun i hi _ _ _ _ _ => dts_nil) ?_ (fun i hi _ => adds_N (imm_cL _)) (by decide) (by rw [Bool.or_eq_true]; exact .inr rfl))) ?_)
    · intro i hi _ s' H' C' cl fp
      have hi : i < 3 := hi
      have hm : (i + 1) % 3 < 3 := Nat.mod_lt _ (by decide)
      exact dn_call (ds' := cL (Tri.ln t (eC p q r i) (eC p q r ((i + 1) % 3)))) F_law_line hr (da_cons (dv 2) (da_cons (de_ixL (d := cD (eC p q r i)) (dv 3) (dv 12) (cL_at (l := [p, q, r]) hi)) (da_cons (de_ixL (d := cD (eC p q r ((i + 1) % 3))) (i := (((i : Nat) : Int) + 1) % 3) (dv 3) (de_mod (de_add (dv 12) de_int) de_int (by decide)) (by rw [show (((i : Nat) : Int) + 1) % 3 = (((i + 1) % 3 : Nat) : Int) by omega]; exact cL_at (l := [p, q, r]) hm)) da_nil))) ⟨kvs, t, W, Hh, _, _, tab, on _ hi, on _ hm, rfl, rfl⟩ (imm_cL _)
    have eL : outs (fun _ => true) (fun i => Dt.lst (cL (Tri.ln t (eC p q r i) (eC p q r ((i + 1) % 3))))) ((3 : Int)).toNat = [.lst (cL (Tri.ln t p q)), .lst (cL (Tri.ln t q r)), .lst (cL (Tri.ln t r p))] := rfl
    rw [eL]
    have lnl : ∀ {u v : Co}, Tri.onB (W : Nat) (Hh : Nat) u → Tri.onB (W : Nat) (Hh : Nat) v → (Tri.ln t u v).length < 1000 := fun hu hv => by
      rw [Tri.ln_len full hu hv]
      have := dist_le w8 h8 hu hv
      omega
    have lnn : ∀ {u v : Co}, Tri.onB (W : Nat) (Hh : Nat) u → Tri.onB (W : Nat) (Hh : Nat) v → Tri.ln t u v ≠ [] := fun hu hv => by
      obtain ⟨y, e⟩ := Tri.ln_head full hu hv; rw [e]; simp
    refine d_cons (d_set 5 nd (DG.strong (DG.cast (d1 := .tup (cL [kneeF (Tri.ln t p q) (Tri.ln t r p), kneeF (Tri.ln t q r) (Tri.ln t p q), kneeF (Tri.ln t r p) (Tri.ln t q r)])) (de_tupOf B.tuple (DG.lstW (dn_lc (own := [("_law_k", 12)]) (js := [12]) (f := fun i ε => ε.set 12 (.val (.int (i : Nat)))) (fun _ => true) (fun i => cD (kneeF (Tri.ln t (eC p q r i) (eC p q r ((i + 1) % 3))) (Tri.ln t (eC p q r ((i + 2) % 3)) (eC p q r (((i + 2) % 3 + 1) % 3))))) _ (di_range1 B.range de_int (by omega)) nd (blkOk_by rfl) (fun i hi _ _ _ _ _ => tg_name 12 nd) (by decide) (fun i hi _ _ _ _ _ => dts_nil) ?_ (fun i hi _ => adds_E rfl) (by decide) (by rw [Bool.or_eq_true]; exact .inr rfl)))) ?_) (imm_cL [kneeF (Tri.ln t p q) (Tri.ln t r p), kneeF (Tri.ln t q r) (Tri.ln t p q), kneeF (Tri.ln t r p) (Tri.ln t q r)])) ?_)
    · intro i hi _ s' H' C' cl fp
      have hi : i < 3 := hi
      match i, hi with
      | 0, _ => exact de_call F_law_knee hr (da_cons (de_ixL (dv 4) (dv 12) rfl) (da_cons (de_ixL (dv 4) (de_mod (de_add (dv 12) de_int) de_int (by decide)) rfl) da_nil)) ⟨Tri.ln t p q, Tri.ln t r p, lnn hp hq, lnl hp hq, rfl, rfl⟩
      | 1, _ => exact de_call F_law_knee hr (da_cons (de_ixL (dv 4) (dv 12) rfl) (da_cons (de_ixL (dv 4) (de_mod (de_add (dv 12) de_int) de_int (by decide)) rfl) da_nil)) ⟨Tri.ln t q r, Tri.ln t p q, lnn hq hr0, lnl hq hr0, rfl, rfl⟩
      | 2, _ => exact de_call F_law_knee hr (da_cons (de_ixL (dv 4) (dv 12) rfl) (da_cons (de_ixL (dv 4) (de_mod (de_add (dv 12) de_int) de_int (by decide)) rfl) da_nil)) ⟨Tri.ln t r p, Tri.ln t q r, lnn hr0 hp, lnl hr0 hp, rfl, rfl⟩
    · rfl
    have cw48 : (cwF t [p, q, r]).length ≤ 48 := by
      have := cwP_len (chain := [p, q, r]) full w8 h8 (by simp [hp, hq, hr0]) 3 (Nat.le_refl _)
      rw [cwP3] at this
      rw [cwF3]
      split
      · simp
      · omega
    have cne : cwF t [p, q, r] ≠ [] := cw3_ne
    refine d_cons (d_set 6 nd (DG.dic (dd_call (kvs := kvL (gridC W Hh) (trW t p q r)) F_law_winds hr (da_cons (dv 1) (da_cons (dn_call (ds' := cL (cwF t [p, q, r])) F_law_chain_walk hr (da_cons (dv 2) (da_cons (dv 3) da_nil)) ⟨kvs, t, W, Hh, [p, q, r], _, tab, by simp, by simp, by simp [hp, hq, hr0], .inl rfl, rfl, rfl⟩ (imm_cL _)).lstW da_nil)) ⟨W, Hh, cwF t [p, q, r], w8, h8, cne, by omega, cw3_on full hp hq hr0, rfl, rfl⟩ (fun x hx => by
      obtain ⟨z, _, rfl⟩ := List.mem_map.mp hx
      rfl))) ?_)
    have gl : (gridC W Hh).length ≤ 16 := by rw [gridC_len]; exact wh
    have dbs : DB T (bodyX P w K mg base ["_law_told", "_law_board_here", "_law_table", "_law_ends_here", "_law_lines", "_law_knees", "_law_winds_here", "_law_cells", "_law_every", "_law_sides", "_law_corners", "_law_corner", "_law_k", "_law_spot"] "_law_is_triangle" s_law_is_triangle f cdv A outer s H E) [.val (.obj C (trF W Hh t p q r)), .val (bD W Hh), .val (.dic kvs), .val (.lst (cL [p, q, r])), .val (.lst [.lst (cL (Tri.ln t p q)), .lst (cL (Tri.ln t q r)), .lst (cL (Tri.ln t r p))]), .val (.tup (cL [kneeF (Tri.ln t p q) (Tri.ln t r p), kneeF (Tri.ln t q r) (Tri.ln t p q), kneeF (Tri.ln t r p) (Tri.ln t q r)])), .val (.dic (kvL (gridC W Hh) (trW t p q r))), .no, .no, .no, .no, .no, .no, .no] (.Call (.Name "sorted" ⟨0, 0, 0, 0⟩) [] [] ⟨0, 0, 0, 0⟩) (.lst (cL (gridC W Hh))) → True := fun _ => trivial
    refine d_cons (d_set 7 nd (DG.lst (dn_lc (own := [("_law_spot", 13)]) (js := [13]) (f := fun i ε => ε.set 13 (.val (cD (gC (gridC W Hh) i)))) (fun i => !decide (trW t p q r (gC (gridC W Hh) i) = 0)) (fun i => cD (gC (gridC W Hh) i)) _ (di_list (ds := cL (gridC W Hh)) (DG.lst (by rw [← sort_grid (F := trW t p q r)]; exact dn_sortedD (u64 hr) B.sorted (dv 6) (by rw [gridC_key]; exact srtC_ok _ (by omega))))) nd (blkOk_by rfl) (fun i hi _ _ _ _ _ => by rw [cL_len] at hi; rw [cL_get hi]; exact tg_name 13 nd) (by decide) (fun i hi _ _ _ _ _ => by rw [cL_len] at hi; exact dts_one (dt_cmp c_neI (de_dget (kC (gC (gridC W Hh) i)) (u9 hr) (dv 6) (dv 13) (kvL_get (gC_mem hi))) de_int rfl)) (fun i hi _ _ _ _ _ _ => dv 13) (fun i hi _ => adds_E rfl) (by rw [cL_len]; omega) (by rw [Bool.or_eq_true]; exact .inr rfl))) ?_)
    have eC2 : outs (fun i => !decide (trW t p q r (gC (gridC W Hh) i) = 0)) (fun i => cD (gC (gridC W Hh) i)) (cL (gridC W Hh)).length = cL (cellsF W Hh (trW t p q r)) := by
      rw [cL_len]
      exact outs_gC (fun z => !decide (trW t p q r z = 0)) cD (gridC W Hh)
    rw [eC2]
    have cl16 := cells_len (W := W) (H := Hh) (trW t p q r)
    obtain ⟨sgn, hsg, es⟩ : ∃ sgn : Int, (sgn = 0 ∨ sgn = 1 ∨ sgn = -1) ∧ signF W Hh (trW t p q r) = sgn := by
      rcases shF_one full hp hq hr0 with h | ⟨m, h⟩
      · obtain ⟨_, _, _, _, s, hs, g1, g2⟩ := tri_free full hp hq hr0 h
        exact ⟨s, .inr hs, (sign_one hs g1 g2).2⟩
      · obtain ⟨_, _, _, _, h0, _⟩ := tri_meet full hp hq hr0 h
        exact ⟨0, .inl rfl, (sign_zero h0).2⟩
    refine d_cons (d_ifF ((dw_or (dt_not (dt_val (de_call F_law_is_path hr (da_cons (de_fld (d := .tup (cL [p, q, r])) hC.cls hC.ne (dv 0) rfl) (da_cons (de_tupOf B.tuple (dv 3)) da_nil)) ⟨[p, q, r], _, by simp, .inl rfl, rfl, rfl⟩))) fun _ => dw_or1 (dt_not (dt_val (de_call F_law_is_path hr (da_cons (de_fld (d := .tup (cL [kneeF (Tri.ln t p q) (Tri.ln t r p), kneeF (Tri.ln t q r) (Tri.ln t p q), kneeF (Tri.ln t r p) (Tri.ln t q r)])) hC.cls hC.nk (dv 0) rfl) (da_cons (dv 5) da_nil)) ⟨_, _, by simp, .inl rfl, rfl, rfl⟩)))).dt.cast rfl) (d_nil ?_))
    have area : ∀ {pos : Pos} {pn : Pos} {ε : List Sl}, DE T (bodyX P w K mg base ["_law_told", "_law_board_here", "_law_table", "_law_ends_here", "_law_lines", "_law_knees", "_law_winds_here", "_law_cells", "_law_every", "_law_sides", "_law_corners", "_law_corner", "_law_k", "_law_spot"] "_law_is_triangle" s_law_is_triangle f cdv A outer s H E) (.val (.obj C (trF W Hh t p q r)) :: ε) (.Attribute (.Name "_law_told" pn) "area" pos) (.int (sgn * ((cellsF W Hh (trW t p q r)).length : Nat))) := by
      intro pos pn ε
      exact de_prop F_Triangle_area hr (dv 0) ⟨_, cellsF W Hh (trW t p q r), sgn, hsg, by omega, by rw [← es]; rfl, rfl, rfl, rfl⟩
    have sign : ∀ {pos : Pos} {pn : Pos} {ε : List Sl}, DE T (bodyX P w K mg base ["_law_told", "_law_board_here", "_law_table", "_law_ends_here", "_law_lines", "_law_knees", "_law_winds_here", "_law_cells", "_law_every", "_law_sides", "_law_corners", "_law_corner", "_law_k", "_law_spot"] "_law_is_triangle" s_law_is_triangle f cdv A outer s H E) (.val (.obj C (trF W Hh t p q r)) :: ε) (.Attribute (.Name "_law_told" pn) "sign" pos) (.int sgn) := by
      intro pos pn ε
      exact (de_fld (d := .int (signF W Hh (trW t p q r))) hC.cls hC.ns (dv 0) rfl).cast (by rw [es])
    refine d_cons (d_ifF ((dw_or (dt_not (dt_val (de_call F_law_is_path hr (da_cons (de_fld (d := .tup (cL (cellsF W Hh (trW t p q r)))) hC.cls hC.nc (dv 0) rfl) (da_cons (dv 7) da_nil)) ⟨cellsF W Hh (trW t p q r), _, by omega, .inr rfl, rfl, rfl⟩))) fun _ => dw_or (dt_not (dt_val (de_call F_law_is_integer hr (da_cons sign da_nil) ⟨sgn, rfl, rfl⟩))) fun _ => dw_or1 (dt_not (dt_val (de_call F_law_is_integer hr (da_cons area da_nil) ⟨_, rfl, rfl⟩)))).dt.cast rfl) (d_nil ?_))
    refine d_cons (d_ifF ((dw_or (dt_not (dt_val (de_call F_law_has_one_sign hr (da_cons (dv 0) (da_cons (dv 1) (da_cons (dv 2) (da_cons (dv 4) (da_cons (dv 6) da_nil))))) ⟨W, Hh, kvs, t, p, q, r, tab, wh, hp, hq, hr0, rfl, rfl⟩))) fun _ => dw_or1 (dt_cmp c_neI area (de_mul sign ((de_lenL B.len (dv 7)).cast (d1 := .int ((cellsF W Hh (trW t p q r)).length : Nat)) (by rw [cL_len])) (.inl (by rcases hsg with rfl | rfl | rfl <;> decide))) rfl)).dt.cast (by simp)) (d_nil ?_))
    have g2 : (gridC (W + 1) (Hh + 1)).length ≤ 81 := by rw [gridC_len]; exact Nat.le_trans (Nat.mul_le_mul (show W + 1 ≤ 9 by omega) (show Hh + 1 ≤ 9 by omega)) (by decide)
    refine d_cons (d_set 8 nd (DG.lst (dn_call (ds' := cL (gridC (W + 1) (Hh + 1))) F_law_all_corners hr (da_cons (dv 1) da_nil) ⟨W, Hh, by omega, by omega, rfl, rfl⟩ (imm_cL _))) ?_)
    refine d_cons (d_set 9 nd (d := .lst (cL (Tri.ln t p q ++ Tri.ln t q r ++ Tri.ln t r p))) (DG.strongN (DG.cast (DG.lstW (dn_cat (ds := cL (Tri.ln t p q ++ Tri.ln t q r)) (es := cL (Tri.ln t r p)) (DG.cast (DG.lstW (dn_cat (ds := cL (Tri.ln t p q)) (es := cL (Tri.ln t q r)) (de_ixL (dv 4) de_int rfl) (de_ixL (dv 4) de_int rfl) ?_ ?_)) ?_) (de_ixL (dv 4) de_int rfl) ?_ ?_)) ?_) rfl) ?_)
    · rw [cL_len, cL_len, sizeLine_eq]
      have := lnl hp hq
      have := lnl hq hr0
      omega
    · rw [cL_app]; exact imm_cL _
    · rw [cL_app]
    · rw [cL_len, cL_len, sizeLine_eq, List.length_append]
      have := lnl hp hq
      have := lnl hq hr0
      have := lnl hr0 hp
      omega
    · rw [cL_app]; exact imm_cL _
    · rw [cL_app]
    have ec := corn_eq full hp hq hr0 (trW t p q r)
    generalize hG : gridC (W + 1) (Hh + 1) = G at g2 ec ⊢
    refine d_cons (d_setLc 10 (own := [("_law_corner", 11)]) (js := [11]) (f := fun i ε => ε.set 11 (.val (cD (gC G i)))) (fun i => decide (gC G i ∈ Tri.ln t p q ++ Tri.ln t q r ++ Tri.ln t r p) || insideF (gC G i) (cellsF W Hh (trW t p q r))) (fun i => cD (gC G i)) _ (di_list (ds := cL G) (bv 8)) nd (blkOk_by rfl) ?_ (by decide) ?_ (fun i hi _ _ _ _ _ _ => dv 11) (fun i hi _ => adds_E rfl) ?_ (by rw [Bool.or_eq_true]; exact .inr rfl) ?_)
    · intro i hi s' H' C' cl fp
      rw [cL_len] at hi
      rw [cL_get hi]
      exact tg_name 11 nd
    · intro i hi s' H' C' cl fp
      exact dts_one (dw_or (dt_cmp (c_inL (u65 hr)) (dv 11) (dv 9) rfl) fun _ => dw_or1 (dt_val (de_call F_law_is_inside hr (da_cons (dv 11) (da_cons (dv 7) da_nil)) ⟨_, _, rfl, rfl⟩))).dt
    · rw [cL_len]; omega
    have eo : outs (fun i => decide (gC G i ∈ Tri.ln t p q ++ Tri.ln t q r ++ Tri.ln t r p) || insideF (gC G i) (cellsF W Hh (trW t p q r))) (fun i => cD (gC G i)) (cL G).length = cL (cornF (Tri.ln t p q) (Tri.ln t q r) (Tri.ln t r p) (cellsF W Hh (trW t p q r))) := by
      rw [cL_len, ec]
      exact outs_gC (fun z => decide (z ∈ Tri.ln t p q ++ Tri.ln t q r ++ Tri.ln t r p) || insideF z (cellsF W Hh (trW t p q r))) cD G
    rw [eo]
    have cl2 : (cornF (Tri.ln t p q) (Tri.ln t q r) (Tri.ln t r p) (cellsF W Hh (trW t p q r))).length < 1000 := by
      rw [ec]
      have := List.length_filter_le (fun z => decide (z ∈ Tri.ln t p q ++ Tri.ln t q r ++ Tri.ln t r p) || insideF z (cellsF W Hh (trW t p q r))) G
      omega
    refine d_cons (d_ifF ((dt_not (dt_val (de_call F_law_is_path hr (da_cons (de_fld (d := .tup (cL (cornF (Tri.ln t p q) (Tri.ln t q r) (Tri.ln t r p) (cellsF W Hh (trW t p q r))))) hC.cls hC.no (dv 0) rfl) (da_cons (dv 10) da_nil)) ⟨_, _, cl2, .inr rfl, rfl, rfl⟩))).cast rfl) (d_nil ?_))
    refine d_cons (d_for (di_list (ds := cL G) (bv 8)) (fun i hi => tg_name 11 nd) (fun i ε => ∃ s11, ε = [.val (.obj C (trF W Hh t p q r)), .val (bD W Hh), .val (.dic kvs), .val (.lst (cL [p, q, r])), .val (.lst [.lst (cL (Tri.ln t p q)), .lst (cL (Tri.ln t q r)), .lst (cL (Tri.ln t r p))]), .val (.tup (cL [kneeF (Tri.ln t p q) (Tri.ln t r p), kneeF (Tri.ln t q r) (Tri.ln t p q), kneeF (Tri.ln t r p) (Tri.ln t q r)])), .val (.dic (kvL (gridC W Hh) (trW t p q r))), .val (.lst (cL (cellsF W Hh (trW t p q r)))), .val (.lst (cL G)), .val (.lst (cL (Tri.ln t p q ++ Tri.ln t q r ++ Tri.ln t r p))), .val (.lst (cL (cornF (Tri.ln t p q) (Tri.ln t q r) (Tri.ln t r p) (cellsF W Hh (trW t p q r))))), s11, .no, .no]) ⟨_, rfl⟩ ?_ ?_)
    · rintro i ε' hi ⟨s11, rfl⟩
      rw [cL_len] at hi
      rw [cL_get hi]
      generalize G.getD i (0, 0) = z
      exact d_one (d_ifF ((dt_cmp c_neB (de_inOwn F_Triangle_contains hr (dv 11) (dv 0) ⟨_, cornF (Tri.ln t p q) (Tri.ln t q r) (Tri.ln t r p) (cellsF W Hh (trW t p q r)), z, rfl, rfl, rfl⟩) (de_cmp (c_inL (u65 hr)) (dv 11) (dv 10) rfl) rfl).cast (by simp)) (d_nil ⟨_, rfl⟩))
    · rintro ε' ⟨s11, rfl⟩
      exact d_one (d_ret de_bl rfl)
end
end Cp
end
section
set_option maxHeartbeats 4000000
namespace Cp
open PySem PySem.Spec PyProof.Rows L2
/-! ### the drawn board, bits and ends -/
theorem co_nat {x y : Int} {a b : Nat} (hx : 0 ≤ x) (hy : 0 ≤ y) (ha : x.toNat = a) (hb : y.toNat = b) : ((x, y) : Co) = ((a : Int), (b : Int)) := Prod.ext (by show x = a; omega) (by show y = b; omega)
theorem board_ok (c : Int) : ∃ W H : Nat, W ≤ 4 ∧ H ≤ 4 ∧ boardF c 4 = ((W : Int), (H : Int)) := by
  have b1 : 0 ≤ drawF c (szB 4) 1 ∧ drawF c (szB 4) 1 < 4 := draw_bd (zs := szB 4) (k := 1) (by decide)
  have b2 : 0 ≤ drawF c (szB 4) 2 ∧ drawF c (szB 4) 2 < 4 := draw_bd (zs := szB 4) (k := 2) (by decide)
  have b3 : 0 ≤ drawF c (szB 4) 3 ∧ drawF c (szB 4) 3 < 5 := draw_bd (zs := szB 4) (k := 3) (by decide)
  have b4 : 0 ≤ drawF c (szB 4) 4 ∧ drawF c (szB 4) 4 < 5 := draw_bd (zs := szB 4) (k := 4) (by decide)
  unfold boardF
  split
  · exact ⟨(drawF c (szB 4) 3).toNat, (drawF c (szB 4) 4).toNat, by omega, by omega, co_nat (by omega) (by omega) rfl rfl⟩
  · exact ⟨(drawF c (szB 4) 1 + 1).toNat, (drawF c (szB 4) 2 + 1).toNat, by omega, by omega, co_nat (by omega) (by omega) rfl rfl⟩
theorem any_ok (ns : List Int) : ∃ W H : Nat, W + H ≤ 10 ∧ W * H ≤ 16 ∧ W ≤ 8 ∧ H ≤ 8 ∧ anyF ns = ((W : Int), (H : Int)) := by
  have b1 : 0 ≤ drawF (ns.getD 3 0) szA 1 ∧ drawF (ns.getD 3 0) szA 1 < 8 := draw_bd (zs := szA) (k := 1) (by decide)
  have b2 : 0 ≤ drawF (ns.getD 3 0) szA 2 ∧ drawF (ns.getD 3 0) szA 2 < 2 := draw_bd (zs := szA) (k := 2) (by decide)
  unfold anyF
  split
  · obtain ⟨W, H, h1, h2, e⟩ := board_ok (ns.getD 0 0)
    exact ⟨W, H, by omega, Nat.le_trans (Nat.mul_le_mul h1 h2) (by decide), by omega, by omega, e⟩
  · split
    · refine ⟨(drawF (ns.getD 3 0) szA 1 + 1).toNat, (drawF (ns.getD 3 0) szA 2 + 1).toNat, by omega, Nat.le_trans (Nat.mul_le_mul (show (drawF (ns.getD 3 0) szA 1 + 1).toNat ≤ 8 by omega) (show (drawF (ns.getD 3 0) szA 2 + 1).toNat ≤ 2 by omega)) (by decide), by omega, by omega, co_nat (by omega) (by omega) rfl rfl⟩
    · refine ⟨(drawF (ns.getD 3 0) szA 2 + 1).toNat, (drawF (ns.getD 3 0) szA 1 + 1).toNat, by omega, Nat.le_trans (Nat.mul_le_mul (show (drawF (ns.getD 3 0) szA 2 + 1).toNat ≤ 2 by omega) (show (drawF (ns.getD 3 0) szA 1 + 1).toNat ≤ 8 by omega)) (by decide), by omega, by omega, co_nat (by omega) (by omega) rfl rfl⟩
theorem twos_at {k : Nat} (h : k < 60) : twos.getD k 0 = 2 := by
  unfold twos
  rw [List.getD_eq_getElem?_getD, List.getElem?_replicate, if_pos h]; rfl
theorem draws_bit (c : Int) : ∀ x ∈ drawsF c twos, 0 ≤ x ∧ x < 2 := fun x hx => by
  unfold drawsF at hx
  obtain ⟨k, hk, rfl⟩ := List.mem_map.mp hx
  have hk : k < 60 := by rw [List.mem_range] at hk; exact hk
  have := draw_bd (c := c) (zs := twos) (k := k) (by rw [twos_at hk]; decide)
  rw [twos_at hk] at this
  exact this
theorem bits_len (ns : List Int) (k : Nat) : (bitsF ns k).length = 120 := by
  unfold bitsF drawsF
  rw [List.length_append, List.length_map, List.length_map, List.length_range]; rfl
theorem bits_ok (ns : List Int) (k : Nat) : zeroOne (bitsF ns k) := fun i => by
  rw [List.getD_eq_getElem?_getD]
  cases e : (bitsF ns k)[i]? with
  | none => exact ⟨by decide, by decide⟩
  | some x =>
    have hx := List.mem_of_getElem? e
    unfold bitsF at hx
    rcases List.mem_append.mp hx with h | h
    · exact draws_bit _ x h
    · exact draws_bit _ x h
theorem ends_ok {t : Co → Co → Tri.L} {W H : Nat} (full : Tri.Full t (W : Nat) (H : Nat)) (c : Int) : ∃ p q r, endsF t W H c = [p, q, r] ∧ Tri.onB (W : Nat) (H : Nat) p ∧ Tri.onB (W : Nat) (H : Nat) q ∧ Tri.onB (W : Nat) (H : Nat) r := by
  have b1 : 0 ≤ drawF c (szE W H) 1 ∧ drawF c (szE W H) 1 < 17 := draw_bd (zs := szE W H) (k := 1) (by show (0 : Int) < 17; decide)
  have b2 : 0 ≤ drawF c (szE W H) 2 ∧ drawF c (szE W H) 2 < (W : Int) + 1 := draw_bd (zs := szE W H) (k := 2) (by show (0 : Int) < W + 1; omega)
  have b3 : 0 ≤ drawF c (szE W H) 3 ∧ drawF c (szE W H) 3 < (H : Int) + 1 := draw_bd (zs := szE W H) (k := 3) (by show (0 : Int) < H + 1; omega)
  have b4 : 0 ≤ drawF c (szE W H) 4 ∧ drawF c (szE W H) 4 < (W : Int) + 1 := draw_bd (zs := szE W H) (k := 4) (by show (0 : Int) < W + 1; omega)
  have b5 : 0 ≤ drawF c (szE W H) 5 ∧ drawF c (szE W H) 5 < (H : Int) + 1 := draw_bd (zs := szE W H) (k := 5) (by show (0 : Int) < H + 1; omega)
  have b6 : 0 ≤ drawF c (szE W H) 6 ∧ drawF c (szE W H) 6 < (W : Int) + 1 := draw_bd (zs := szE W H) (k := 6) (by show (0 : Int) < W + 1; omega)
  have b7 : 0 ≤ drawF c (szE W H) 7 ∧ drawF c (szE W H) 7 < (H : Int) + 1 := draw_bd (zs := szE W H) (k := 7) (by show (0 : Int) < H + 1; omega)
  unfold endsF
  generalize drawF c (szE W H) = d at *
  have o0 : Tri.onB (W : Nat) (H : Nat) (d 2, d 3) := by unfold Tri.onB; show 0 ≤ d 2 ∧ d 2 ≤ W ∧ 0 ≤ d 3 ∧ d 3 ≤ H; omega
  have o1 : Tri.onB (W : Nat) (H : Nat) (d 4, d 5) := by unfold Tri.onB; show 0 ≤ d 4 ∧ d 4 ≤ W ∧ 0 ≤ d 5 ∧ d 5 ≤ H; omega
  have o2 : Tri.onB (W : Nat) (H : Nat) (d 6, d 7) := by unfold Tri.onB; show 0 ≤ d 6 ∧ d 6 ≤ W ∧ 0 ≤ d 7 ∧ d 7 ≤ H; omega
  simp only
  split
  · exact ⟨_, _, _, rfl, o0, o0, o2⟩
  split
  · exact ⟨_, _, _, rfl, o0, o2, o2⟩
  split
  · exact ⟨_, _, _, rfl, o0, o0, o0⟩
  split
  · refine ⟨_, _, _, rfl, o0, o1, Tri.ln_on full o0 o1 (gC_mem ?_)⟩
    have h0 : 0 < (Tri.ln t (d 2, d 3) (d 4, d 5)).length := by rw [Tri.ln_len full o0 o1]; omega
    have h1 := Int.emod_nonneg (d 1) (show (((Tri.ln t (d 2, d 3) (d 4, d 5)).length : Nat) : Int) ≠ 0 by omega)
    have h2 := Int.emod_lt_of_pos (d 1) (show 0 < (((Tri.ln t (d 2, d 3) (d 4, d 5)).length : Nat) : Int) by omega)
    omega
  split
  · refine ⟨_, _, _, rfl, ?_, ?_, ?_⟩
    · unfold Tri.onB; show (0 : Int) ≤ 0 ∧ (0 : Int) ≤ W ∧ 0 ≤ d 3 ∧ d 3 ≤ H; omega
    · unfold Tri.onB; show (0 : Int) ≤ W ∧ (W : Int) ≤ W ∧ 0 ≤ d 5 ∧ d 5 ≤ H; omega
    · unfold Tri.onB
      show 0 ≤ d 6 ∧ d 6 ≤ W ∧ 0 ≤ (H : Int) * (d 1 % 2) ∧ (H : Int) * (d 1 % 2) ≤ H
      have h1 := Int.emod_nonneg (d 1) (show (2 : Int) ≠ 0 by decide)
      have h2 := Int.emod_lt_of_pos (d 1) (show (0 : Int) < 2 by decide)
      have : d 1 % 2 = 0 ∨ d 1 % 2 = 1 := by omega
      rcases this with e | e <;> rw [e] <;> omega
  · exact ⟨_, _, _, rfl, o0, o1, o2⟩
theorem fill_full {W H : Nat} {bits : List Int} (hb : zeroOne bits) : Tri.Full (Tri.fillN bits (sortP W H) (sortP W H).length).1 (W : Nat) (H : Nat) := (Tri.fill_inv (sortP_srt W H) hb _ (Nat.le_refl _)).1.full (sortP_srt W H)
end Cp
end
section
set_option maxHeartbeats 4000000
namespace Cp
open PySem PySem.Spec PyProof.Rows L2

open PySem.W LamX
def ordN : List (Nat × Nat × Nat) := [(0, 1, 2), (1, 2, 0), (2, 0, 1), (1, 0, 2), (0, 2, 1), (2, 1, 0)]
def ordD : List Dt := ordN.map fun z => .lst [.int (z.1 : Nat), .int (z.2.1 : Nat), .int (z.2.2 : Nat)]
/-- the i-th order's k-th corner -/
def oA (l : List Co) (i : Nat) : Co := gC l (ordN.getD i (0, 0, 0)).1
def oB (l : List Co) (i : Nat) : Co := gC l (ordN.getD i (0, 0, 0)).2.1
def oC (l : List Co) (i : Nat) : Co := gC l (ordN.getD i (0, 0, 0)).2.2
theorem ord_lt : ∀ i, i < 6 → (ordN.getD i (0, 0, 0)).1 < 3 ∧ (ordN.getD i (0, 0, 0)).2.1 < 3 ∧ (ordN.getD i (0, 0, 0)).2.2 < 3 := by decide +kernel
theorem ord_at {i : Nat} (h : i < 6) : ordD.getD i .non = .lst [.int ((ordN.getD i (0, 0, 0)).1 : Nat), .int ((ordN.getD i (0, 0, 0)).2.1 : Nat), .int ((ordN.getD i (0, 0, 0)).2.2 : Nat)] := by
  match i, h with
  | 0, _ => rfl
  | 1, _ => rfl
  | 2, _ => rfl
  | 3, _ => rfl
  | 4, _ => rfl
  | 5, _ => rfl
def rowD (l : List Co) : List Dt := (List.range 6).map fun i => .lst (cL [oA l i, oB l i, oC l i])
def toldD (C : Addr) (W H : Nat) (t : Co → Co → Tri.L) (l : List Co) : List Dt := (List.range 6).map fun i => .obj C (trF W H t (oA l i) (oB l i) (oC l i))
theorem row_at {l : List Co} {i : Nat} (h : i < 6) : (rowD l).getD i .non = .lst (cL [oA l i, oB l i, oC l i]) := by
  unfold rowD
  rw [List.getD_eq_getElem?_getD, List.getElem?_map, List.getElem?_range h]; rfl
theorem row_ix {l : List Co} {i : Nat} (h : i < 6) : atI (rowD l) (i : Nat) = some (.lst (cL [oA l i, oB l i, oC l i])) := by
  refine atI_nat ?_
  unfold rowD
  rw [List.getElem?_map, List.getElem?_range h]; rfl
theorem told_ix {C : Addr} {W H : Nat} {t : Co → Co → Tri.L} {l : List Co} {i : Nat} (h : i < 6) : atI (toldD C W H t l) (i : Nat) = some (.obj C (trF W H t (oA l i) (oB l i) (oC l i))) := by
  refine atI_nat ?_
  unfold toldD
  rw [List.getElem?_map, List.getElem?_range h]; rfl
def txD (t : Co → Co → Tri.L) (W H : Nat) : Dt := .tup [.str (lets (tl t (prs fUp W H))), .str (lets (tl t (prs fDn W H)))]
theorem outs_all (fd : Nat → Dt) (n : Nat) : outs (fun _ => true) fd n = (List.range n).map fd := by
  unfold outs
  rw [List.filter_eq_self.mpr (fun _ _ => rfl)]
theorem nolst_c (c : Co) : (cD c).nolst = true := rfl
theorem nolst_cL : ∀ l : List Co, nolstAll (cL l) = true
  | [] => rfl
  | c :: l => by
    show nolstAll (cD c :: cL l) = true
    unfold nolstAll
    rw [nolst_c, nolst_cL l]; rfl
theorem nolst_opt : ∀ o : Option Co, (optD o).nolst = true
  | none => rfl
  | some c => rfl
theorem nolst_tr {C : Addr} {W H : Nat} {t : Co → Co → Tri.L} {p q r : Co} : (Dt.obj C (trF W H t p q r)).nolst = true := by
  unfold Dt.nolst trF
  simp only [nolstFs, nolst_opt, nolst_cL, Dt.nolst, Bool.and_self]
section
variable {T : List (Addr × Str)} {P : Program} {w : World} {K : PySem.W.Frag} {mg : Str → Option Value} {base : Heap}

def R_law (ds : List Dt) (d : Dt) : Prop := ∃ r ns, ds = [.scr r ns] ∧ d = .bl true
abbrev FD_law (T : List (Addr × Str)) (P : Program) (w : World) (K : PySem.W.Frag) (mg : Str → Option Value) (base : Heap) : Prop := FnD T P w K mg base "law" 10 ["_law_script"] R_law
theorem body_law {C D : Addr} (B : Bi mg) (mC : mg "Triangle" = some (.ref C)) (mD : mg "Plane" = some (.ref D)) (F_any : FD_law_any_board T P w K mg base) (F_fill : FD_law_fill T P w K mg base) (F_bits : FD_law_bits T P w K mg base) (F_texts : FD_law_texts T P w K mg base) (F_plane : FD_Plane_init T P w K mg base D) (F_east : FD_law_east T P w K mg base) (F_ends : FD_law_ends T P w K mg base) (F_cell : FD_law_cell T P w K mg base) (F_tri : FD_Triangle_init T P w K mg base C D) (F_is : FD_law_is_triangle T P w K mg base C)
    (f : Addr) (cdv : Value) (A : Around) (outer : List Env) (s : Shared) (H : Hp) (E : XK) (ds : List Dt) (d : Dt) (hr : Room 9 (A.deeper (envOfC "law" (defScope s_law) s.heap.objs.size f cdv))) (hl : ds.length = (["_law_script"] : List Str).length) (hR : R_law ds d) :
    DSs T (bodyX P w K mg base ["_law_script", "_law_board_here", "_law_table", "_law_texts_here", "_law_plane", "_law_east_here", "_law_letters", "_law_second", "_law_ends_here", "_law_orders", "_law_rows", "_law_told", "_law_more", "_law_k", "_law_order", "_law_row"] "law" s_law f cdv A outer s H E) (ds.map .val ++ List.replicate ((["_law_script", "_law_board_here", "_law_table", "_law_texts_here", "_law_plane", "_law_east_here", "_law_letters", "_law_second", "_law_ends_here", "_law_orders", "_law_rows", "_law_told", "_law_more", "_law_k", "_law_order", "_law_row"] : List Str).length - (["_law_script"] : List Str).length) .no) (defBody s_law) (endP d) := by
  have nd : (["_law_script", "_law_board_here", "_law_table", "_law_texts_here", "_law_plane", "_law_east_here", "_law_letters", "_law_second", "_law_ends_here", "_law_orders", "_law_rows", "_law_told", "_law_more", "_law_k", "_law_order", "_law_row"] : List Str).Nodup := by decide +kernel
  obtain ⟨ra, ns, rfl, rfl⟩ := hR
  obtain ⟨W, Hh, wh10, wh16, w8, h8, eb⟩ := any_ok ns
  have bok := bits_ok ns 1
  have bl := bits_len ns 1
  have full0 := fill_full (W := W) (H := Hh) bok
  have full1 : Tri.Full Tri.eastT (W : Nat) (Hh : Nat) := Tri.east_full
  generalize ht0 : (Tri.fillN (bitsF ns 1) (sortP W Hh) (sortP W Hh).length).1 = t0 at full0
  have tab0 := kvT_tab full0 w8 h8
  have tab1 := kvT_tab full1 w8 h8
  have ptab0 := plK_tab full0 w8 h8
  have ptab1 := plK_tab full1 w8 h8
  obtain ⟨p, q, r, ee, hp, hq, hr0⟩ := ends_ok full0 (ns.getD 4 0 + 37)
  have on3 : ∀ k, k < 3 → Tri.onB (W : Nat) (Hh : Nat) (gC [p, q, r] k) := fun k hk => by
    match k, hk with
    | 0, _ => exact hp
    | 1, _ => exact hq
    | 2, _ => exact hr0
  have onA : ∀ i, i < 6 → Tri.onB (W : Nat) (Hh : Nat) (oA [p, q, r] i) := fun i hi => on3 _ (ord_lt i hi).1
  have onB : ∀ i, i < 6 → Tri.onB (W : Nat) (Hh : Nat) (oB [p, q, r] i) := fun i hi => on3 _ (ord_lt i hi).2.1
  have onC : ∀ i, i < 6 → Tri.onB (W : Nat) (Hh : Nat) (oC [p, q, r] i) := fun i hi => on3 _ (ord_lt i hi).2.2
  refine d_cons (d_set 1 nd (DG.strong (de_call (d := bD W Hh) F_any hr (da_cons (dv 0) da_nil) ⟨ra, ns, rfl, by rw [eb]; rfl⟩) rfl) ?_)
  refine d_cons (d_set 2 nd (DG.dic (dd_call (kvs := kvT (sortP W Hh) t0) F_fill hr (da_cons (dv 1) (da_cons (DG.dic dd_new).weak (da_cons (dn_call (ds' := iL (bitsF ns 1)) F_bits hr (da_cons (dv 0) (da_cons de_int da_nil)) ⟨ra, ns, 1, by omega, rfl, rfl⟩ (imm_iL _)).lstW da_nil))) ⟨W, Hh, bitsF ns 1, w8, h8, by omega, by omega, bok, rfl, by rw [ht0]⟩ (kvT_imm _ _))) ?_)
  refine d_cons (d_set 3 nd (DG.strong (de_call (d := txD t0 W Hh) F_texts hr (da_cons (dv 1) (da_cons (dv 2) da_nil)) ⟨_, t0, W, Hh, tab0, rfl, rfl⟩) rfl) ?_)
  refine d_cons (d_set 4 nd (d := plD D W Hh (lets (tl t0 (prs fUp W Hh))) (lets (tl t0 (prs fDn W Hh))) (plK t0 W Hh)) (DG.strongN (de_make F_plane mD hr (da_cons (dv 1) (da_cons (de_ixT (dv 3) de_int rfl) (da_cons (de_ixT (dv 3) de_int rfl) da_nil))) ⟨W, Hh, t0, w8, h8, full0, rfl, rfl⟩) rfl) ?_)
  refine d_cons (d_set 5 nd (DG.dic (dd_call (kvs := kvT (sortP W Hh) Tri.eastT) F_east hr (da_cons (dv 1) da_nil) ⟨W, Hh, w8, h8, rfl, rfl⟩ (kvT_imm _ _))) ?_)
  refine d_cons (d_set 6 nd (DG.strong (de_call (d := txD Tri.eastT W Hh) F_texts hr (da_cons (dv 1) (da_cons (dv 5) da_nil)) ⟨_, Tri.eastT, W, Hh, tab1, rfl, rfl⟩) rfl) ?_)
  refine d_cons (d_set 7 nd (d := plD D W Hh (lets (tl Tri.eastT (prs fUp W Hh))) (lets (tl Tri.eastT (prs fDn W Hh))) (plK Tri.eastT W Hh)) (DG.strongN (de_make F_plane mD hr (da_cons (dv 1) (da_cons (de_ixT (dv 6) de_int rfl) (da_cons (de_ixT (dv 6) de_int rfl) da_nil))) ⟨W, Hh, Tri.eastT, w8, h8, full1, rfl, rfl⟩) rfl) ?_)
  refine d_cons (d_set 8 nd (DG.lst (dn_call (ds' := cL [p, q, r]) F_ends hr (da_cons (dv 1) (da_cons (dv 2) (da_cons (de_add (de_call F_cell hr (da_cons (dv 0) (da_cons de_int da_nil)) ⟨ra, ns, 4, by omega, rfl, rfl⟩) de_int) da_nil))) ⟨_, t0, W, Hh, ns.getD 4 0 + 37, tab0, rfl, by rw [ee]⟩ (imm_cL _))) ?_)
  refine d_cons (d_set 9 nd (DG.lst (dn_lst (ds := ordD) (da_cons (dn_lst (da_cons de_int (da_cons de_int (da_cons de_int da_nil))) rfl).lstW (da_cons (dn_lst (da_cons de_int (da_cons de_int (da_cons de_int da_nil))) rfl).lstW (da_cons (dn_lst (da_cons de_int (da_cons de_int (da_cons de_int da_nil))) rfl).lstW (da_cons (dn_lst (da_cons de_int (da_cons de_int (da_cons de_int da_nil))) rfl).lstW (da_cons (dn_lst (da_cons de_int (da_cons de_int (da_cons de_int da_nil))) rfl).lstW (da_cons (dn_lst (da_cons de_int (da_cons de_int (da_cons de_int da_nil))) rfl).lstW da_nil)))))) rfl)) ?_)
  refine d_cons (d_setLc 10 (own := [("_law_order", 14)]) (js := [14]) (f := fun i ε => ε.set 14 (.val (ordD.getD i .non))) (fun _ => true) (fun i => .lst (cL [oA [p, q, r] i, oB [p, q, r] i, oC [p, q, r] i])) (fun i => gN (bodyX P w K mg base ["_law_script", "_law_board_here", "_law_table", "_law_texts_here", "_law_plane", "_law_east_here", "_law_letters", "_law_second", "_law_ends_here", "_law_orders", "_law_rows", "_law_told", "_law_more", "_law_k", "_law_order", "_law_row"] "law" s_law f cdv A outer s H E) (cL [oA [p, q, r] i, oB [p, q, r] i, oC [p, q, r] i])) (di_list (ds := ordD) (bv 9)) nd (blkOk_by rfl) (fun i hi _ _ _ _ _ => tg_name 14 nd) (by decide) (fun i hi _ _ _ _ _ => dts_nil) ?_ (fun i hi _ => adds_N (imm_cL _)) (by decide) (by rw [Bool.or_eq_true]; exact .inr rfl) ?_)
  · intro i hi _ s' H' C' cl fp
    have hi : i < 6 := hi
    obtain ⟨g1, g2, g3⟩ := ord_lt i hi
    rw [ord_at hi]
    exact dn_lst (ds := cL [oA [p, q, r] i, oB [p, q, r] i, oC [p, q, r] i]) (da_cons (de_ixL (dv 8) (de_ixL (dv 14) de_int rfl) (cL_at (l := [p, q, r]) g1)) (da_cons (de_ixL (dv 8) (de_ixL (dv 14) de_int rfl) (cL_at (l := [p, q, r]) g2)) (da_cons (de_ixL (dv 8) (de_ixL (dv 14) de_int rfl) (cL_at (l := [p, q, r]) g3)) da_nil))) (by rw [Bool.or_eq_true]; exact .inl (imm_cL _))
  have e10 : outs (fun _ => true) (fun i => Dt.lst (cL [oA [p, q, r] i, oB [p, q, r] i, oC [p, q, r] i])) ordD.length = rowD [p, q, r] := outs_all _ _
  rw [e10]
  have told : ∀ (t : Co → Co → Tri.L) (a b : Str), Tab (plK t W Hh) t W Hh → ∀ i, i < 6 → R_Triangle_init D [plD D W Hh a b (plK t W Hh), cD (oA [p, q, r] i), cD (oB [p, q, r] i), cD (oC [p, q, r] i)] (trF W Hh t (oA [p, q, r] i) (oB [p, q, r] i) (oC [p, q, r] i)) := fun t a b tab i hi => ⟨W, Hh, a, b, plK t W Hh, t, _, _, _, tab, wh10, wh16, onA i hi, onB i hi, onC i hi, rfl, rfl⟩
  have c3 : ∀ {x y z : Co}, atI (cL [x, y, z]) 0 = some (cD x) ∧ atI (cL [x, y, z]) 1 = some (cD y) ∧ atI (cL [x, y, z]) 2 = some (cD z) := fun {x y z} => ⟨rfl, rfl, rfl⟩
  refine d_cons (d_setLc 11 (own := [("_law_row", 15)]) (js := [15]) (f := fun i ε => ε.set 15 (.val ((rowD [p, q, r]).getD i .non))) (fun _ => true) (fun i => .obj C (trF W Hh t0 (oA [p, q, r] i) (oB [p, q, r] i) (oC [p, q, r] i))) _ (di_list (ds := rowD [p, q, r]) (bv 10)) nd (blkOk_by rfl) (fun i hi _ _ _ _ _ => tg_name 15 nd) (by decide) (fun i hi _ _ _ _ _ => dts_nil) ?_ (fun i hi _ => adds_E nolst_tr) (by rw [show (rowD [p, q, r]).length = 6 from rfl]; decide) (by rw [Bool.or_eq_true]; exact .inr rfl) ?_)
  · intro i hi _ s' H' C' cl fp
    have hi : i < 6 := hi
    rw [row_at hi]
    exact de_make F_tri mC hr (da_cons (dv 4) (da_cons (de_ixL (dv 15) de_int c3.1) (da_cons (de_ixL (dv 15) de_int c3.2.1) (da_cons (de_ixL (dv 15) de_int c3.2.2) da_nil)))) (told t0 _ _ ptab0 i hi)
  have e11 : outs (fun _ => true) (fun i => Dt.obj C (trF W Hh t0 (oA [p, q, r] i) (oB [p, q, r] i) (oC [p, q, r] i))) (rowD [p, q, r]).length = toldD C W Hh t0 [p, q, r] := outs_all _ _
  rw [e11]
  refine d_cons (d_setLc 12 (own := [("_law_row", 15)]) (js := [15]) (f := fun i ε => ε.set 15 (.val ((rowD [p, q, r]).getD i .non))) (fun _ => true) (fun i => .obj C (trF W Hh Tri.eastT (oA [p, q, r] i) (oB [p, q, r] i) (oC [p, q, r] i))) _ (di_list (ds := rowD [p, q, r]) (bv 10)) nd (blkOk_by rfl) (fun i hi _ _ _ _ _ => tg_name 15 nd) (by decide) (fun i hi _ _ _ _ _ => dts_nil) ?_ (fun i hi _ => adds_E nolst_tr) (by rw [show (rowD [p, q, r]).length = 6 from rfl]; decide) (by rw [Bool.or_eq_true]; exact .inr rfl) ?_)
  · intro i hi _ s' H' C' cl fp
    have hi : i < 6 := hi
    rw [row_at hi]
    exact de_make F_tri mC hr (da_cons (dv 7) (da_cons (de_ixL (dv 15) de_int c3.1) (da_cons (de_ixL (dv 15) de_int c3.2.1) (da_cons (de_ixL (dv 15) de_int c3.2.2) da_nil)))) (told Tri.eastT _ _ ptab1 i hi)
  have e12 : outs (fun _ => true) (fun i => Dt.obj C (trF W Hh Tri.eastT (oA [p, q, r] i) (oB [p, q, r] i) (oC [p, q, r] i))) (rowD [p, q, r]).length = toldD C W Hh Tri.eastT [p, q, r] := outs_all _ _
  rw [e12]
  have is0 : ∀ i, i < 6 → R_law_is_triangle C [.obj C (trF W Hh t0 (oA [p, q, r] i) (oB [p, q, r] i) (oC [p, q, r] i)), bD W Hh, .dic (kvT (sortP W Hh) t0), .lst (cL [oA [p, q, r] i, oB [p, q, r] i, oC [p, q, r] i])] (.bl true) := fun i hi => ⟨W, Hh, _, t0, _, _, _, tab0, wh10, wh16, onA i hi, onB i hi, onC i hi, rfl, rfl⟩
  have is1 : ∀ i, i < 6 → R_law_is_triangle C [.obj C (trF W Hh Tri.eastT (oA [p, q, r] i) (oB [p, q, r] i) (oC [p, q, r] i)), bD W Hh, .dic (kvT (sortP W Hh) Tri.eastT), .lst (cL [oA [p, q, r] i, oB [p, q, r] i, oC [p, q, r] i])] (.bl true) := fun i hi => ⟨W, Hh, _, Tri.eastT, _, _, _, tab1, wh10, wh16, onA i hi, onB i hi, onC i hi, rfl, rfl⟩
  refine d_cons (d_for (di_range1 B.range (de_lenL B.len (dv 10)) (by rw [show (rowD [p, q, r]).length = 6 from rfl]; decide)) (fun i hi => tg_name 13 nd) (fun i ε => ∃ s13, ε = [.val (.scr ra ns), .val (bD W Hh), .val (.dic (kvT (sortP W Hh) t0)), .val (txD t0 W Hh), .val (plD D W Hh (lets (tl t0 (prs fUp W Hh))) (lets (tl t0 (prs fDn W Hh))) (plK t0 W Hh)), .val (.dic (kvT (sortP W Hh) Tri.eastT)), .val (txD Tri.eastT W Hh), .val (plD D W Hh (lets (tl Tri.eastT (prs fUp W Hh))) (lets (tl Tri.eastT (prs fDn W Hh))) (plK Tri.eastT W Hh)), .val (.lst (cL [p, q, r])), .val (.lst ordD), .val (.lst (rowD [p, q, r])), .val (.lst (toldD C W Hh t0 [p, q, r])), .val (.lst (toldD C W Hh Tri.eastT [p, q, r])), s13, .no, .no]) ⟨_, rfl⟩ ?_ ?_)
  · rintro i ε' hi ⟨s13, rfl⟩
    have hi : i < 6 := hi
    exact d_one (d_ifF ((dw_or (dt_not (dt_val (de_call F_is hr (da_cons (de_ixL (dv 11) (dv 13) (told_ix hi)) (da_cons (dv 1) (da_cons (dv 2) (da_cons (de_ixL (dv 10) (dv 13) (row_ix hi)) da_nil)))) (is0 i hi)))) fun _ => dw_or1 (dt_not (dt_val (de_call F_is hr (da_cons (de_ixL (dv 12) (dv 13) (told_ix hi)) (da_cons (dv 1) (da_cons (dv 5) (da_cons (de_ixL (dv 10) (dv 13) (row_ix hi)) da_nil)))) (is1 i hi))))).dt.cast rfl) (d_nil ⟨_, rfl⟩))
  · rintro ε' ⟨s13, rfl⟩
    exact d_one (d_ret (de_call F_is hr (da_cons (de_ixL (dv 11) de_int (told_ix (i := 0) (by decide))) (da_cons (dv 1) (da_cons (dv 2) (da_cons (de_ixL (dv 10) de_int (row_ix (i := 0) (by decide))) da_nil)))) (is0 0 (by decide))) rfl)
end
end Cp
end
section
set_option maxHeartbeats 4000000
namespace Cp
open PySem PySem.Spec PyProof.Rows L2
open PySem.W LamX
theorem gFun {K : PySem.W.Frag} (e : fnA K (gAd K) = gVal) (kp : PySem.W.keepIn K (.ref (gAd K)) = true) (c : gOk K = true) : ∃ fd, FnP K "area" "Triangle.area" s_Triangle_area (gAd K) fd := by
  unfold fnA at e
  unfold gOk at c
  cases q : K.lookup (gAd K) with
  | none => rw [q] at c; cases c
  | some o =>
    obtain ⟨oc, od, dt, osl⟩ := o
    rw [q] at c e
    cases dt with
    | func fd =>
      obtain ⟨n1, n2, n3, n4, n5, n6, n7, n8, n9, n10, n11, n12, n13, n14, n15⟩ := fd
      have e2 : (some (n1, n2, n3, n4, n5, n6, n7, n15) : He.FnW) = gVal := e
      unfold gVal at e2
      simp only [Option.some.injEq, Prod.mk.injEq] at e2
      obtain ⟨h1, h2, h3, h4, h5, h6, h7, h8⟩ := e2
      subst h1 h2 h3 h4 h5 h6 h7 h8
      have c3 : (PySem.W.codeIn K n13 "Triangle.area" && (He.dflB K n8 [] && He.kwdB K n9 [])) = true := c
      obtain ⟨k1, k2⟩ := He.ba c3
      obtain ⟨k3, k4⟩ := He.ba k2
      exact ⟨_, ⟨oc, od, n8, n9, n10, n11, n12, n13, n14, osl, rfl, q, k1, He.dflB_ok k3, He.kwdB_ok k4⟩, kp⟩
    | _ => cases c
theorem gProp {K : PySem.W.Frag} (e : fnA K (gAd K) = gVal) (c : propB K = true) (hc : Cls K (He.ga K "Triangle")) : HasP K (He.ga K "Triangle") "area" "Triangle.area" s_Triangle_area := by
  obtain ⟨c1, c⟩ := He.ba c
  obtain ⟨c2, c⟩ := He.ba c
  obtain ⟨c3, c⟩ := He.ba c
  obtain ⟨c4, c⟩ := He.ba c
  obtain ⟨c5, c6⟩ := He.ba c
  obtain ⟨fd, F⟩ := gFun e c5 c6
  refine ⟨hc, pAd K, gAd K, fd, F, ⟨He.eqO_ok c1, He.eqO_ok c2, of_decide_eq_true c3, ?_⟩⟩
  cases q : PySem.W.recIn K (pAd K) "property" with
  | none => rw [q] at c4; cases c4
  | some l =>
    cases l with
    | nil => rw [q] at c4; cases c4
    | cons v l =>
      cases v with
      | ref g =>
        have eg : gAd K = g := by unfold gAd; rw [q]
        exact ⟨l, by rw [eg]⟩
      | _ => rw [q] at c4; cases c4
theorem facts {w : World} {K : PySem.W.Frag} {h : Heap} {mg : Str → Option Value} {fa0 : Addr} (X : K.In h) (G : h.Ns mainGlobals mg) (c : He.SaysX fa fn [] tf propB w h K) (ea : fnA K (gAd K) = gVal) (hm : mg "law" = some (.ref fa0)) :
    LawAtS PySem.Challenge.rw_cornerplane_k48_whole_triangles_have_one w K CX0 10 63 "_law_script" mg fa0 h := by
  have B : Bi mg := ⟨He.free_ok X G (c.t.d.fact 53 (f := .free "len") rfl), He.free_ok X G (c.t.d.fact 54 (f := .free "abs") rfl), He.free_ok X G (c.t.d.fact 55 (f := .free "int") rfl), He.free_ok X G (c.t.d.fact 56 (f := .free "bool") rfl), He.free_ok X G (c.t.d.fact 57 (f := .free "min") rfl), He.free_ok X G (c.t.d.fact 58 (f := .free "range") rfl), He.free_ok X G (c.t.d.fact 59 (f := .free "list") rfl), He.free_ok X G (c.t.d.fact 60 (f := .free "tuple") rfl), He.free_ok X G (c.t.d.fact 61 (f := .free "enumerate") rfl), He.free_ok X G (c.t.d.fact 62 (f := .free "sorted") rfl), He.free_ok X G (c.t.d.fact 63 (f := .free "zip") rfl), He.free_ok X G (c.t.d.fact 64 (f := .free "set") rfl), He.free_ok X G (c.t.d.fact 65 (f := .free "isinstance") rfl)⟩
  have Q : Ws mg := ⟨He.str_ok X G (c.t.d.fact 66 (f := .str "RISING" "rising") rfl), He.str_ok X G (c.t.d.fact 67 (f := .str "FALLING" "falling") rfl)⟩
  have hP : PlC K (He.ga K "Plane") := ⟨He.cls_ok (c.t.d.fact 69 (f := .cls "Plane") rfl), He.noat_ok (c.t.d.fact 76 (f := .noat "Plane" "board") rfl), He.noat_ok (c.t.d.fact 77 (f := .noat "Plane" "rising") rfl), He.noat_ok (c.t.d.fact 78 (f := .noat "Plane" "falling") rfl), He.noat_ok (c.t.d.fact 79 (f := .noat "Plane" "letters") rfl)⟩
  have hT : TrC K (He.ga K "Triangle") := ⟨He.cls_ok (c.t.d.fact 68 (f := .cls "Triangle") rfl), He.noat_ok (c.t.d.fact 80 (f := .noat "Triangle" "ends") rfl), He.noat_ok (c.t.d.fact 81 (f := .noat "Triangle" "knees") rfl), He.noat_ok (c.t.d.fact 82 (f := .noat "Triangle" "meeting") rfl), He.noat_ok (c.t.d.fact 83 (f := .noat "Triangle" "sign") rfl), He.noat_ok (c.t.d.fact 84 (f := .noat "Triangle" "cells") rfl), He.noat_ok (c.t.d.fact 85 (f := .noat "Triangle" "corners") rfl)⟩
  have mC : mg "Triangle" = some (.ref (He.ga K "Triangle")) := He.glo_ok X G (c.t.d.fact 51 (f := .glo "Triangle") rfl)
  have mD : mg "Plane" = some (.ref (He.ga K "Plane")) := He.glo_ok X G (c.t.d.fact 52 (f := .glo "Plane") rfl)
  have hArea := gProp ea c.more hT.cls
  have H_closed_walk : Has K mg "closed_walk" "closed_walk" s_closed_walk := ⟨let ⟨fd, F⟩ := (c.t.d.def_ 0 (d := d_closed_walk) rfl); ⟨_, fd, F, He.glo_ok X G (c.t.d.fact 0 (f := .glo "closed_walk") rfl)⟩⟩
  have H_steps_of : Has K mg "steps_of" "steps_of" s_steps_of := ⟨let ⟨fd, F⟩ := (c.t.d.def_ 1 (d := d_steps_of) rfl); ⟨_, fd, F, He.glo_ok X G (c.t.d.fact 1 (f := .glo "steps_of") rfl)⟩⟩
  have H_without_zeros : Has K mg "without_zeros" "without_zeros" s_without_zeros := ⟨let ⟨fd, F⟩ := (c.t.d.def_ 2 (d := d_without_zeros) rfl); ⟨_, fd, F, He.glo_ok X G (c.t.d.fact 2 (f := .glo "without_zeros") rfl)⟩⟩
  have H_net_steps : Has K mg "net_steps" "net_steps" s_net_steps := ⟨let ⟨fd, F⟩ := (c.t.d.def_ 3 (d := d_net_steps) rfl); ⟨_, fd, F, He.glo_ok X G (c.t.d.fact 3 (f := .glo "net_steps") rfl)⟩⟩
  have H_cell_numbers : Has K mg "cell_numbers" "cell_numbers" s_cell_numbers := ⟨let ⟨fd, F⟩ := (c.t.d.def_ 4 (d := d_cell_numbers) rfl); ⟨_, fd, F, He.glo_ok X G (c.t.d.fact 4 (f := .glo "cell_numbers") rfl)⟩⟩
  have H_windings : Has K mg "windings" "windings" s_windings := ⟨let ⟨fd, F⟩ := (c.t.d.def_ 5 (d := d_windings) rfl); ⟨_, fd, F, He.glo_ok X G (c.t.d.fact 5 (f := .glo "windings") rfl)⟩⟩
  have H_last_common : Has K mg "last_common" "last_common" s_last_common := ⟨let ⟨fd, F⟩ := (c.t.d.def_ 6 (d := d_last_common) rfl); ⟨_, fd, F, He.glo_ok X G (c.t.d.fact 6 (f := .glo "last_common") rfl)⟩⟩
  have H_common_of_three : Has K mg "common_of_three" "common_of_three" s_common_of_three := ⟨let ⟨fd, F⟩ := (c.t.d.def_ 7 (d := d_common_of_three) rfl); ⟨_, fd, F, He.glo_ok X G (c.t.d.fact 7 (f := .glo "common_of_three") rfl)⟩⟩
  have H_inner_corners : Has K mg "inner_corners" "inner_corners" s_inner_corners := ⟨let ⟨fd, F⟩ := (c.t.d.def_ 8 (d := d_inner_corners) rfl); ⟨_, fd, F, He.glo_ok X G (c.t.d.fact 8 (f := .glo "inner_corners") rfl)⟩⟩
  have H_Triangle_init : HasI K (He.ga K "Triangle") "Triangle.__init__" s_Triangle_init := ⟨let ⟨fd, F⟩ := (c.t.d.def_ 9 (d := d_Triangle_init) rfl); ⟨_, fd, F, He.mkr_ok (c.t.d.fact 70 (f := .mkr "Triangle") rfl)⟩⟩
  have H_Triangle_contains : HasM K (He.ga K "Triangle") "__contains__" "Triangle.__contains__" s_Triangle_contains := ⟨hT.cls, let ⟨fd, F⟩ := (c.t.d.def_ 10 (d := d_Triangle_contains) rfl); ⟨_, fd, F, He.meth_ok (c.t.d.fact 75 (f := .meth "Triangle" "__contains__") rfl)⟩⟩
  have H_corners_of : Has K mg "corners_of" "corners_of" s_corners_of := ⟨let ⟨fd, F⟩ := (c.t.d.def_ 11 (d := d_corners_of) rfl); ⟨_, fd, F, He.glo_ok X G (c.t.d.fact 9 (f := .glo "corners_of") rfl)⟩⟩
  have H_on_board : Has K mg "on_board" "on_board" s_on_board := ⟨let ⟨fd, F⟩ := (c.t.d.def_ 12 (d := d_on_board) rfl); ⟨_, fd, F, He.glo_ok X G (c.t.d.fact 10 (f := .glo "on_board") rfl)⟩⟩
  have H_rising_pairs : Has K mg "rising_pairs" "rising_pairs" s_rising_pairs := ⟨let ⟨fd, F⟩ := (c.t.d.def_ 13 (d := d_rising_pairs) rfl); ⟨_, fd, F, He.glo_ok X G (c.t.d.fact 11 (f := .glo "rising_pairs") rfl)⟩⟩
  have H_falling_pairs : Has K mg "falling_pairs" "falling_pairs" s_falling_pairs := ⟨let ⟨fd, F⟩ := (c.t.d.def_ 14 (d := d_falling_pairs) rfl); ⟨_, fd, F, He.glo_ok X G (c.t.d.fact 12 (f := .glo "falling_pairs") rfl)⟩⟩
  have H_pairs_of : Has K mg "pairs_of" "pairs_of" s_pairs_of := ⟨let ⟨fd, F⟩ := (c.t.d.def_ 15 (d := d_pairs_of) rfl); ⟨_, fd, F, He.glo_ok X G (c.t.d.fact 13 (f := .glo "pairs_of") rfl)⟩⟩
  have H_steps_between : Has K mg "steps_between" "steps_between" s_steps_between := ⟨let ⟨fd, F⟩ := (c.t.d.def_ 16 (d := d_steps_between) rfl); ⟨_, fd, F, He.glo_ok X G (c.t.d.fact 14 (f := .glo "steps_between") rfl)⟩⟩
  have H_pairs_by_steps : HasC K mg "pairs_by_steps" "pairs_by_steps" s_pairs_by_steps (He.cT K ("pairs_by_steps", none)).1 := by
    obtain ⟨fd, F⟩ := c.t.d.def_ 17 (d := d_pairs_by_steps) rfl
    refine ⟨_, fd, F, He.glo_ok X G (c.t.d.fact 15 (f := .glo "pairs_by_steps") rfl), ?_⟩
    obtain ⟨oc, od, dV, kV, doc, pm, an, cdv, ct, osl, e0, lk, hcd, _, _⟩ := F.ex
    obtain ⟨c0, e1⟩ := He.codeIn_ref hcd
    have e2 : fd.code = .ref c0 := by rw [e0]; exact e1
    rw [e2]
    exact congrArg Value.ref (He.codeOf_eq lk e2).symm
  have H_steep_letter : Has K mg "steep_letter" "steep_letter" s_steep_letter := ⟨let ⟨fd, F⟩ := (c.t.d.def_ 18 (d := d_steep_letter) rfl); ⟨_, fd, F, He.glo_ok X G (c.t.d.fact 16 (f := .glo "steep_letter") rfl)⟩⟩
  have H_moved : Has K mg "moved" "moved" s_moved := ⟨let ⟨fd, F⟩ := (c.t.d.def_ 19 (d := d_moved) rfl); ⟨_, fd, F, He.glo_ok X G (c.t.d.fact 17 (f := .glo "moved") rfl)⟩⟩
  have H_has_table_form : Has K mg "has_table_form" "has_table_form" s_has_table_form := ⟨let ⟨fd, F⟩ := (c.t.d.def_ 20 (d := d_has_table_form) rfl); ⟨_, fd, F, He.glo_ok X G (c.t.d.fact 18 (f := .glo "has_table_form") rfl)⟩⟩
  have H_letters_by_pair : Has K mg "letters_by_pair" "letters_by_pair" s_letters_by_pair := ⟨let ⟨fd, F⟩ := (c.t.d.def_ 21 (d := d_letters_by_pair) rfl); ⟨_, fd, F, He.glo_ok X G (c.t.d.fact 19 (f := .glo "letters_by_pair") rfl)⟩⟩
  have H_first_letter : Has K mg "first_letter" "first_letter" s_first_letter := ⟨let ⟨fd, F⟩ := (c.t.d.def_ 22 (d := d_first_letter) rfl); ⟨_, fd, F, He.glo_ok X G (c.t.d.fact 20 (f := .glo "first_letter") rfl)⟩⟩
  have H_before : Has K mg "before" "before" s_before := ⟨let ⟨fd, F⟩ := (c.t.d.def_ 23 (d := d_before) rfl); ⟨_, fd, F, He.glo_ok X G (c.t.d.fact 21 (f := .glo "before") rfl)⟩⟩
  have H_last_letters : Has K mg "last_letters" "last_letters" s_last_letters := ⟨let ⟨fd, F⟩ := (c.t.d.def_ 24 (d := d_last_letters) rfl); ⟨_, fd, F, He.glo_ok X G (c.t.d.fact 22 (f := .glo "last_letters") rfl)⟩⟩
  have H_find_broken_pair : Has K mg "find_broken_pair" "find_broken_pair" s_find_broken_pair := ⟨let ⟨fd, F⟩ := (c.t.d.def_ 25 (d := d_find_broken_pair) rfl); ⟨_, fd, F, He.glo_ok X G (c.t.d.fact 23 (f := .glo "find_broken_pair") rfl)⟩⟩
  have H_Plane_init : HasI K (He.ga K "Plane") "Plane.__init__" s_Plane_init := ⟨let ⟨fd, F⟩ := (c.t.d.def_ 26 (d := d_Plane_init) rfl); ⟨_, fd, F, He.mkr_ok (c.t.d.fact 71 (f := .mkr "Plane") rfl)⟩⟩
  have H_Plane_letter : HasM K (He.ga K "Plane") "letter" "Plane.letter" s_Plane_letter := ⟨hP.cls, let ⟨fd, F⟩ := (c.t.d.def_ 27 (d := d_Plane_letter) rfl); ⟨_, fd, F, He.meth_ok (c.t.d.fact 72 (f := .meth "Plane" "letter") rfl)⟩⟩
  have H_Plane_walked : HasM K (He.ga K "Plane") "walked" "Plane.walked" s_Plane_walked := ⟨hP.cls, let ⟨fd, F⟩ := (c.t.d.def_ 28 (d := d_Plane_walked) rfl); ⟨_, fd, F, He.meth_ok (c.t.d.fact 73 (f := .meth "Plane" "walked") rfl)⟩⟩
  have H_Plane_line : HasM K (He.ga K "Plane") "line" "Plane.line" s_Plane_line := ⟨hP.cls, let ⟨fd, F⟩ := (c.t.d.def_ 29 (d := d_Plane_line) rfl); ⟨_, fd, F, He.meth_ok (c.t.d.fact 74 (f := .meth "Plane" "line") rfl)⟩⟩
  have H_law_cell : Has K mg "_law_cell" "_law_cell" s_law_cell := ⟨let ⟨fd, F⟩ := (c.t.d.def_ 30 (d := d_law_cell) rfl); ⟨_, fd, F, He.glo_ok X G (c.t.d.fact 24 (f := .glo "_law_cell") rfl)⟩⟩
  have H_law_draws : Has K mg "_law_draws" "_law_draws" s_law_draws := ⟨let ⟨fd, F⟩ := (c.t.d.def_ 31 (d := d_law_draws) rfl); ⟨_, fd, F, He.glo_ok X G (c.t.d.fact 25 (f := .glo "_law_draws") rfl)⟩⟩
  have H_law_board : Has K mg "_law_board" "_law_board" s_law_board := ⟨let ⟨fd, F⟩ := (c.t.d.def_ 32 (d := d_law_board) rfl); ⟨_, fd, F, He.glo_ok X G (c.t.d.fact 26 (f := .glo "_law_board") rfl)⟩⟩
  have H_law_all_corners : Has K mg "_law_all_corners" "_law_all_corners" s_law_all_corners := ⟨let ⟨fd, F⟩ := (c.t.d.def_ 33 (d := d_law_all_corners) rfl); ⟨_, fd, F, He.glo_ok X G (c.t.d.fact 27 (f := .glo "_law_all_corners") rfl)⟩⟩
  have H_law_all_cells : Has K mg "_law_all_cells" "_law_all_cells" s_law_all_cells := ⟨let ⟨fd, F⟩ := (c.t.d.def_ 34 (d := d_law_all_cells) rfl); ⟨_, fd, F, He.glo_ok X G (c.t.d.fact 28 (f := .glo "_law_all_cells") rfl)⟩⟩
  have H_law_moved : Has K mg "_law_moved" "_law_moved" s_law_moved := ⟨let ⟨fd, F⟩ := (c.t.d.def_ 35 (d := d_law_moved) rfl); ⟨_, fd, F, He.glo_ok X G (c.t.d.fact 29 (f := .glo "_law_moved") rfl)⟩⟩
  have H_law_letter : Has K mg "_law_letter" "_law_letter" s_law_letter := ⟨let ⟨fd, F⟩ := (c.t.d.def_ 36 (d := d_law_letter) rfl); ⟨_, fd, F, He.glo_ok X G (c.t.d.fact 30 (f := .glo "_law_letter") rfl)⟩⟩
  have H_law_walk : Has K mg "_law_walk" "_law_walk" s_law_walk := ⟨let ⟨fd, F⟩ := (c.t.d.def_ 37 (d := d_law_walk) rfl); ⟨_, fd, F, He.glo_ok X G (c.t.d.fact 31 (f := .glo "_law_walk") rfl)⟩⟩
  have H_law_line : Has K mg "_law_line" "_law_line" s_law_line := ⟨let ⟨fd, F⟩ := (c.t.d.def_ 38 (d := d_law_line) rfl); ⟨_, fd, F, He.glo_ok X G (c.t.d.fact 32 (f := .glo "_law_line") rfl)⟩⟩
  have H_law_pairs : Has K mg "_law_pairs" "_law_pairs" s_law_pairs := ⟨let ⟨fd, F⟩ := (c.t.d.def_ 39 (d := d_law_pairs) rfl); ⟨_, fd, F, He.glo_ok X G (c.t.d.fact 33 (f := .glo "_law_pairs") rfl)⟩⟩
  have H_law_texts : Has K mg "_law_texts" "_law_texts" s_law_texts := ⟨let ⟨fd, F⟩ := (c.t.d.def_ 40 (d := d_law_texts) rfl); ⟨_, fd, F, He.glo_ok X G (c.t.d.fact 34 (f := .glo "_law_texts") rfl)⟩⟩
  have H_law_bits : Has K mg "_law_bits" "_law_bits" s_law_bits := ⟨let ⟨fd, F⟩ := (c.t.d.def_ 41 (d := d_law_bits) rfl); ⟨_, fd, F, He.glo_ok X G (c.t.d.fact 35 (f := .glo "_law_bits") rfl)⟩⟩
  have H_law_fill : Has K mg "_law_fill" "_law_fill" s_law_fill := ⟨let ⟨fd, F⟩ := (c.t.d.def_ 42 (d := d_law_fill) rfl); ⟨_, fd, F, He.glo_ok X G (c.t.d.fact 36 (f := .glo "_law_fill") rfl)⟩⟩
  have H_law_chain_walk : Has K mg "_law_chain_walk" "_law_chain_walk" s_law_chain_walk := ⟨let ⟨fd, F⟩ := (c.t.d.def_ 43 (d := d_law_chain_walk) rfl); ⟨_, fd, F, He.glo_ok X G (c.t.d.fact 37 (f := .glo "_law_chain_walk") rfl)⟩⟩
  have H_law_winds : Has K mg "_law_winds" "_law_winds" s_law_winds := ⟨let ⟨fd, F⟩ := (c.t.d.def_ 44 (d := d_law_winds) rfl); ⟨_, fd, F, He.glo_ok X G (c.t.d.fact 38 (f := .glo "_law_winds") rfl)⟩⟩
  have H_law_is_integer : Has K mg "_law_is_integer" "_law_is_integer" s_law_is_integer := ⟨let ⟨fd, F⟩ := (c.t.d.def_ 45 (d := d_law_is_integer) rfl); ⟨_, fd, F, He.glo_ok X G (c.t.d.fact 39 (f := .glo "_law_is_integer") rfl)⟩⟩
  have H_law_is_corner : Has K mg "_law_is_corner" "_law_is_corner" s_law_is_corner := ⟨let ⟨fd, F⟩ := (c.t.d.def_ 46 (d := d_law_is_corner) rfl); ⟨_, fd, F, He.glo_ok X G (c.t.d.fact 40 (f := .glo "_law_is_corner") rfl)⟩⟩
  have H_law_is_path : Has K mg "_law_is_path" "_law_is_path" s_law_is_path := ⟨let ⟨fd, F⟩ := (c.t.d.def_ 47 (d := d_law_is_path) rfl); ⟨_, fd, F, He.glo_ok X G (c.t.d.fact 41 (f := .glo "_law_is_path") rfl)⟩⟩
  have H_law_any_board : Has K mg "_law_any_board" "_law_any_board" s_law_any_board := ⟨let ⟨fd, F⟩ := (c.t.d.def_ 48 (d := d_law_any_board) rfl); ⟨_, fd, F, He.glo_ok X G (c.t.d.fact 42 (f := .glo "_law_any_board") rfl)⟩⟩
  have H_law_east : Has K mg "_law_east" "_law_east" s_law_east := ⟨let ⟨fd, F⟩ := (c.t.d.def_ 49 (d := d_law_east) rfl); ⟨_, fd, F, He.glo_ok X G (c.t.d.fact 43 (f := .glo "_law_east") rfl)⟩⟩
  have H_law_ends : Has K mg "_law_ends" "_law_ends" s_law_ends := ⟨let ⟨fd, F⟩ := (c.t.d.def_ 50 (d := d_law_ends) rfl); ⟨_, fd, F, He.glo_ok X G (c.t.d.fact 44 (f := .glo "_law_ends") rfl)⟩⟩
  have H_law_knee : Has K mg "_law_knee" "_law_knee" s_law_knee := ⟨let ⟨fd, F⟩ := (c.t.d.def_ 51 (d := d_law_knee) rfl); ⟨_, fd, F, He.glo_ok X G (c.t.d.fact 45 (f := .glo "_law_knee") rfl)⟩⟩
  have H_law_is_inside : Has K mg "_law_is_inside" "_law_is_inside" s_law_is_inside := ⟨let ⟨fd, F⟩ := (c.t.d.def_ 52 (d := d_law_is_inside) rfl); ⟨_, fd, F, He.glo_ok X G (c.t.d.fact 46 (f := .glo "_law_is_inside") rfl)⟩⟩
  have H_law_has_double : Has K mg "_law_has_double" "_law_has_double" s_law_has_double := ⟨let ⟨fd, F⟩ := (c.t.d.def_ 53 (d := d_law_has_double) rfl); ⟨_, fd, F, He.glo_ok X G (c.t.d.fact 47 (f := .glo "_law_has_double") rfl)⟩⟩
  have H_law_has_one_sign : Has K mg "_law_has_one_sign" "_law_has_one_sign" s_law_has_one_sign := ⟨let ⟨fd, F⟩ := (c.t.d.def_ 54 (d := d_law_has_one_sign) rfl); ⟨_, fd, F, He.glo_ok X G (c.t.d.fact 48 (f := .glo "_law_has_one_sign") rfl)⟩⟩
  have H_law_is_triangle : Has K mg "_law_is_triangle" "_law_is_triangle" s_law_is_triangle := ⟨let ⟨fd, F⟩ := (c.t.d.def_ 55 (d := d_law_is_triangle) rfl); ⟨_, fd, F, He.glo_ok X G (c.t.d.fact 49 (f := .glo "_law_is_triangle") rfl)⟩⟩
  obtain ⟨fd, F⟩ := c.t.d.def_ 56 (d := d_law) rfl
  have e := hm.symm.trans (He.glo_ok X G (c.t.d.fact 50 (f := .glo "law") rfl))
  cases e
  have ct : ∀ p ∈ [He.cT K ("pairs_by_steps", none)], p = He.cT K ("pairs_by_steps", none) := fun p hp => by simpa using hp
  refine ⟨fd, [He.cT K ("pairs_by_steps", none)], spD [((He.cT K ("pairs_by_steps", none)).2, lamQ)] PySem.Challenge.rw_cornerplane_k48_whole_triangles_have_one.prog w K 1 R_law, fun p hp => ?_, fun p hp => ?_, fun p hp => ?_, ?_, ?_, ?_⟩
  · rw [ct p hp]; exact c.empty _ (List.Mem.head _)
  · rw [ct p hp]; exact c.out _ (List.Mem.head _)
  · rw [ct p hp]; exact PySem.W.codeHd_of_K X (c.hd _ (List.Mem.head _))
  · have b := FunD.bindsA (ps := ["_law_script"]) F fun _ _ _ _ _ _ us hl => match us, hl with | [_], _ => rfl
    exact fun s v => b s [v] rfl
  · intro H a ns _ _ ht hS
    have tab : Tb [((He.cT K ("pairs_by_steps", none)).2, lamQ)] H := by
      refine ⟨fun p hp => ?_, fun p hp => ?_⟩
      · have : p = ((He.cT K ("pairs_by_steps", none)).2, lamQ) := by simpa using hp
        rw [this]
      · have : p = ((He.cT K ("pairs_by_steps", none)).2, lamQ) := by simpa using hp
        rw [this]
        exact TabS.nil (ht _ (List.Mem.head _))
    refine ⟨tab, [.scr a ns], .bl true, .cons (.scr hS) .nil, rfl, ⟨a, ns, rfl, rfl⟩, fun v H' _ hv _ => ?_⟩
    cases hv
    rfl
  · intro base _ _ hTB
    have TB : TabB base mg (He.cT K ("pairs_by_steps", none)).1 (He.cT K ("pairs_by_steps", none)).2 := hTB _ (List.Mem.head _)
    have hTm : ((He.cT K ("pairs_by_steps", none)).2, lamQ) ∈ [((He.cT K ("pairs_by_steps", none)).2, lamQ)] := List.Mem.head _
    have F_law_cell := f_law_cell (T := [((He.cT K ("pairs_by_steps", none)).2, lamQ)]) (P := PySem.Challenge.rw_cornerplane_k48_whole_triangles_have_one.prog) (w := w) (base := base) B H_law_cell
    have F_steps_of := f_steps_of (T := [((He.cT K ("pairs_by_steps", none)).2, lamQ)]) (P := PySem.Challenge.rw_cornerplane_k48_whole_triangles_have_one.prog) (w := w) (base := base) B H_steps_of
    have F_without_zeros := f_without_zeros (T := [((He.cT K ("pairs_by_steps", none)).2, lamQ)]) (P := PySem.Challenge.rw_cornerplane_k48_whole_triangles_have_one.prog) (w := w) (base := base) B H_without_zeros
    have F_cell_numbers := f_cell_numbers (T := [((He.cT K ("pairs_by_steps", none)).2, lamQ)]) (P := PySem.Challenge.rw_cornerplane_k48_whole_triangles_have_one.prog) (w := w) (base := base) B H_cell_numbers F_without_zeros
    have F_common_of_three := f_common_of_three (T := [((He.cT K ("pairs_by_steps", none)).2, lamQ)]) (P := PySem.Challenge.rw_cornerplane_k48_whole_triangles_have_one.prog) (w := w) (base := base) B H_common_of_three
    have F_inner_corners := f_inner_corners (T := [((He.cT K ("pairs_by_steps", none)).2, lamQ)]) (P := PySem.Challenge.rw_cornerplane_k48_whole_triangles_have_one.prog) (w := w) (base := base) B H_inner_corners
    have F_Triangle_contains := f_Triangle_contains (T := [((He.cT K ("pairs_by_steps", none)).2, lamQ)]) (P := PySem.Challenge.rw_cornerplane_k48_whole_triangles_have_one.prog) (w := w) (base := base) B H_Triangle_contains hT
    have F_Triangle_area := f_Triangle_area (T := [((He.cT K ("pairs_by_steps", none)).2, lamQ)]) (P := PySem.Challenge.rw_cornerplane_k48_whole_triangles_have_one.prog) (w := w) (base := base) B hT hArea
    have F_law_draws := f_law_draws (T := [((He.cT K ("pairs_by_steps", none)).2, lamQ)]) (P := PySem.Challenge.rw_cornerplane_k48_whole_triangles_have_one.prog) (w := w) (base := base) B H_law_draws
    have F_law_board := f_law_board (T := [((He.cT K ("pairs_by_steps", none)).2, lamQ)]) (P := PySem.Challenge.rw_cornerplane_k48_whole_triangles_have_one.prog) (w := w) (base := base) B H_law_board F_law_draws
    have F_law_all_corners := f_law_all_corners (T := [((He.cT K ("pairs_by_steps", none)).2, lamQ)]) (P := PySem.Challenge.rw_cornerplane_k48_whole_triangles_have_one.prog) (w := w) (base := base) B H_law_all_corners
    have F_law_all_cells := f_law_all_cells (T := [((He.cT K ("pairs_by_steps", none)).2, lamQ)]) (P := PySem.Challenge.rw_cornerplane_k48_whole_triangles_have_one.prog) (w := w) (base := base) B H_law_all_cells
    have F_law_moved := f_law_moved (T := [((He.cT K ("pairs_by_steps", none)).2, lamQ)]) (P := PySem.Challenge.rw_cornerplane_k48_whole_triangles_have_one.prog) (w := w) (base := base) B H_law_moved
    have F_law_letter := f_law_letter (T := [((He.cT K ("pairs_by_steps", none)).2, lamQ)]) (P := PySem.Challenge.rw_cornerplane_k48_whole_triangles_have_one.prog) (w := w) (base := base) B H_law_letter
    have F_first_letter := f_first_letter (T := [((He.cT K ("pairs_by_steps", none)).2, lamQ)]) (P := PySem.Challenge.rw_cornerplane_k48_whole_triangles_have_one.prog) (w := w) (base := base) B H_first_letter
    have F_law_walk := f_law_walk (T := [((He.cT K ("pairs_by_steps", none)).2, lamQ)]) (P := PySem.Challenge.rw_cornerplane_k48_whole_triangles_have_one.prog) (w := w) (base := base) B H_law_walk F_law_moved F_law_letter
    have F_law_line := f_law_line (T := [((He.cT K ("pairs_by_steps", none)).2, lamQ)]) (P := PySem.Challenge.rw_cornerplane_k48_whole_triangles_have_one.prog) (w := w) (base := base) B H_law_line F_law_walk
    have F_law_knee := f_law_knee (T := [((He.cT K ("pairs_by_steps", none)).2, lamQ)]) (P := PySem.Challenge.rw_cornerplane_k48_whole_triangles_have_one.prog) (w := w) (base := base) B H_law_knee
    have F_last_common := f_last_common (T := [((He.cT K ("pairs_by_steps", none)).2, lamQ)]) (P := PySem.Challenge.rw_cornerplane_k48_whole_triangles_have_one.prog) (w := w) (base := base) B H_last_common
    have F_law_is_inside := f_law_is_inside (T := [((He.cT K ("pairs_by_steps", none)).2, lamQ)]) (P := PySem.Challenge.rw_cornerplane_k48_whole_triangles_have_one.prog) (w := w) (base := base) B H_law_is_inside
    have F_law_has_double := f_law_has_double (T := [((He.cT K ("pairs_by_steps", none)).2, lamQ)]) (P := PySem.Challenge.rw_cornerplane_k48_whole_triangles_have_one.prog) (w := w) (base := base) B H_law_has_double
    have F_law_is_integer := f_law_is_integer (T := [((He.cT K ("pairs_by_steps", none)).2, lamQ)]) (P := PySem.Challenge.rw_cornerplane_k48_whole_triangles_have_one.prog) (w := w) (base := base) B H_law_is_integer
    have F_law_is_corner := f_law_is_corner (T := [((He.cT K ("pairs_by_steps", none)).2, lamQ)]) (P := PySem.Challenge.rw_cornerplane_k48_whole_triangles_have_one.prog) (w := w) (base := base) B H_law_is_corner F_law_is_integer
    have F_law_is_path := f_law_is_path (T := [((He.cT K ("pairs_by_steps", none)).2, lamQ)]) (P := PySem.Challenge.rw_cornerplane_k48_whole_triangles_have_one.prog) (w := w) (base := base) B H_law_is_path F_law_is_corner
    have F_law_bits := f_law_bits (T := [((He.cT K ("pairs_by_steps", none)).2, lamQ)]) (P := PySem.Challenge.rw_cornerplane_k48_whole_triangles_have_one.prog) (w := w) (base := base) B H_law_bits F_law_cell F_law_draws
    have F_law_any_board := f_law_any_board (T := [((He.cT K ("pairs_by_steps", none)).2, lamQ)]) (P := PySem.Challenge.rw_cornerplane_k48_whole_triangles_have_one.prog) (w := w) (base := base) B H_law_any_board F_law_cell F_law_draws F_law_board
    have F_law_chain_walk := f_law_chain_walk (T := [((He.cT K ("pairs_by_steps", none)).2, lamQ)]) (P := PySem.Challenge.rw_cornerplane_k48_whole_triangles_have_one.prog) (w := w) (base := base) B H_law_chain_walk F_law_line
    have F_law_winds := f_law_winds (T := [((He.cT K ("pairs_by_steps", none)).2, lamQ)]) (P := PySem.Challenge.rw_cornerplane_k48_whole_triangles_have_one.prog) (w := w) (base := base) B H_law_winds F_law_all_cells
    have F_law_ends := f_law_ends (T := [((He.cT K ("pairs_by_steps", none)).2, lamQ)]) (P := PySem.Challenge.rw_cornerplane_k48_whole_triangles_have_one.prog) (w := w) (base := base) B H_law_ends F_law_draws F_law_line
    have F_law_pairs := f_law_pairs (T := [((He.cT K ("pairs_by_steps", none)).2, lamQ)]) (P := PySem.Challenge.rw_cornerplane_k48_whole_triangles_have_one.prog) (w := w) (base := base) B H_law_pairs
    have F_law_east := f_law_east (T := [((He.cT K ("pairs_by_steps", none)).2, lamQ)]) (P := PySem.Challenge.rw_cornerplane_k48_whole_triangles_have_one.prog) (w := w) (base := base) B H_law_east F_law_pairs
    have F_law_texts := f_law_texts (T := [((He.cT K ("pairs_by_steps", none)).2, lamQ)]) (P := PySem.Challenge.rw_cornerplane_k48_whole_triangles_have_one.prog) (w := w) (base := base) B H_law_texts
    have F_law_fill := f_law_fill (T := [((He.cT K ("pairs_by_steps", none)).2, lamQ)]) (P := PySem.Challenge.rw_cornerplane_k48_whole_triangles_have_one.prog) (w := w) (base := base) B H_law_fill F_law_pairs F_law_walk F_law_moved F_law_letter
    have F_moved := f_moved (T := [((He.cT K ("pairs_by_steps", none)).2, lamQ)]) (P := PySem.Challenge.rw_cornerplane_k48_whole_triangles_have_one.prog) (w := w) (base := base) B H_moved
    have F_before := f_before (T := [((He.cT K ("pairs_by_steps", none)).2, lamQ)]) (P := PySem.Challenge.rw_cornerplane_k48_whole_triangles_have_one.prog) (w := w) (base := base) B H_before
    have F_steep_letter := f_steep_letter (T := [((He.cT K ("pairs_by_steps", none)).2, lamQ)]) (P := PySem.Challenge.rw_cornerplane_k48_whole_triangles_have_one.prog) (w := w) (base := base) B H_steep_letter Q
    have F_steps_between := f_steps_between (T := [((He.cT K ("pairs_by_steps", none)).2, lamQ)]) (P := PySem.Challenge.rw_cornerplane_k48_whole_triangles_have_one.prog) (w := w) (base := base) B H_steps_between
    have F_on_board := f_on_board (T := [((He.cT K ("pairs_by_steps", none)).2, lamQ)]) (P := PySem.Challenge.rw_cornerplane_k48_whole_triangles_have_one.prog) (w := w) (base := base) B H_on_board
    have F_corners_of := f_corners_of (T := [((He.cT K ("pairs_by_steps", none)).2, lamQ)]) (P := PySem.Challenge.rw_cornerplane_k48_whole_triangles_have_one.prog) (w := w) (base := base) B H_corners_of
    have F_rising_pairs := f_rising_pairs (T := [((He.cT K ("pairs_by_steps", none)).2, lamQ)]) (P := PySem.Challenge.rw_cornerplane_k48_whole_triangles_have_one.prog) (w := w) (base := base) B H_rising_pairs F_corners_of
    have F_falling_pairs := f_falling_pairs (T := [((He.cT K ("pairs_by_steps", none)).2, lamQ)]) (P := PySem.Challenge.rw_cornerplane_k48_whole_triangles_have_one.prog) (w := w) (base := base) B H_falling_pairs F_corners_of
    have F_pairs_of := f_pairs_of (T := [((He.cT K ("pairs_by_steps", none)).2, lamQ)]) (P := PySem.Challenge.rw_cornerplane_k48_whole_triangles_have_one.prog) (w := w) (base := base) B H_pairs_of F_rising_pairs F_falling_pairs Q
    have F_pairs_by_steps := f_pairs_by_steps (T := [((He.cT K ("pairs_by_steps", none)).2, lamQ)]) (P := PySem.Challenge.rw_cornerplane_k48_whole_triangles_have_one.prog) (w := w) (base := base) B H_pairs_by_steps TB hTm F_pairs_of F_steps_between
    have F_has_table_form := f_has_table_form (T := [((He.cT K ("pairs_by_steps", none)).2, lamQ)]) (P := PySem.Challenge.rw_cornerplane_k48_whole_triangles_have_one.prog) (w := w) (base := base) B H_has_table_form F_pairs_of F_steep_letter
    have F_letters_by_pair := f_letters_by_pair (T := [((He.cT K ("pairs_by_steps", none)).2, lamQ)]) (P := PySem.Challenge.rw_cornerplane_k48_whole_triangles_have_one.prog) (w := w) (base := base) B H_letters_by_pair F_pairs_of
    have F_last_letters := f_last_letters (T := [((He.cT K ("pairs_by_steps", none)).2, lamQ)]) (P := PySem.Challenge.rw_cornerplane_k48_whole_triangles_have_one.prog) (w := w) (base := base) B H_last_letters F_pairs_by_steps F_first_letter F_moved
    have F_find_broken_pair := f_find_broken_pair (T := [((He.cT K ("pairs_by_steps", none)).2, lamQ)]) (P := PySem.Challenge.rw_cornerplane_k48_whole_triangles_have_one.prog) (w := w) (base := base) B H_find_broken_pair F_letters_by_pair F_last_letters F_pairs_by_steps F_first_letter F_before
    have F_Plane_init := f_Plane_init (T := [((He.cT K ("pairs_by_steps", none)).2, lamQ)]) (P := PySem.Challenge.rw_cornerplane_k48_whole_triangles_have_one.prog) (w := w) (base := base) B Q hP H_Plane_init F_has_table_form F_find_broken_pair F_letters_by_pair
    have F_Plane_letter := f_Plane_letter (T := [((He.cT K ("pairs_by_steps", none)).2, lamQ)]) (P := PySem.Challenge.rw_cornerplane_k48_whole_triangles_have_one.prog) (w := w) (base := base) B H_Plane_letter F_first_letter hP
    have F_Plane_walked := f_Plane_walked (T := [((He.cT K ("pairs_by_steps", none)).2, lamQ)]) (P := PySem.Challenge.rw_cornerplane_k48_whole_triangles_have_one.prog) (w := w) (base := base) B H_Plane_walked F_moved F_Plane_letter
    have F_Plane_line := f_Plane_line (T := [((He.cT K ("pairs_by_steps", none)).2, lamQ)]) (P := PySem.Challenge.rw_cornerplane_k48_whole_triangles_have_one.prog) (w := w) (base := base) B H_Plane_line F_on_board F_Plane_walked hP
    have F_closed_walk := f_closed_walk (T := [((He.cT K ("pairs_by_steps", none)).2, lamQ)]) (P := PySem.Challenge.rw_cornerplane_k48_whole_triangles_have_one.prog) (w := w) (base := base) B H_closed_walk F_Plane_line
    have F_net_steps := f_net_steps (T := [((He.cT K ("pairs_by_steps", none)).2, lamQ)]) (P := PySem.Challenge.rw_cornerplane_k48_whole_triangles_have_one.prog) (w := w) (base := base) B H_net_steps F_steps_of F_without_zeros F_closed_walk
    have F_windings := f_windings (T := [((He.cT K ("pairs_by_steps", none)).2, lamQ)]) (P := PySem.Challenge.rw_cornerplane_k48_whole_triangles_have_one.prog) (w := w) (base := base) B H_windings F_cell_numbers F_net_steps
    have F_Triangle_init := f_Triangle_init (T := [((He.cT K ("pairs_by_steps", none)).2, lamQ)]) (P := PySem.Challenge.rw_cornerplane_k48_whole_triangles_have_one.prog) (w := w) (base := base) B hT H_Triangle_init F_Plane_line F_windings F_last_common F_common_of_three F_inner_corners
    have F_law_has_one_sign := f_law_has_one_sign (T := [((He.cT K ("pairs_by_steps", none)).2, lamQ)]) (P := PySem.Challenge.rw_cornerplane_k48_whole_triangles_have_one.prog) (w := w) (base := base) B H_law_has_one_sign F_law_chain_walk F_law_winds F_law_is_corner F_law_has_double hT
    have F_law_is_triangle := f_law_is_triangle (T := [((He.cT K ("pairs_by_steps", none)).2, lamQ)]) (P := PySem.Challenge.rw_cornerplane_k48_whole_triangles_have_one.prog) (w := w) (base := base) B H_law_is_triangle F_law_line F_law_knee F_law_winds F_law_chain_walk F_law_is_path F_law_is_integer F_law_all_corners F_law_is_inside F_law_has_one_sign F_Triangle_contains F_Triangle_area hT
    refine fn_body (x := "law") (qual := "law") (st := s_law) (ps := ["_law_script"]) F (N := ["_law_script", "_law_board_here", "_law_table", "_law_texts_here", "_law_plane", "_law_east_here", "_law_letters", "_law_second", "_law_ends_here", "_law_orders", "_law_rows", "_law_told", "_law_more", "_law_k", "_law_order", "_law_row"]) ⟨rfl, rfl, rfl, by decide +kernel, rfl, by decide +kernel, by decide +kernel⟩ 9 R_law ?_
    exact body_law B mC mD F_law_any_board F_law_fill F_law_bits F_law_texts F_Plane_init F_law_east F_law_ends F_law_cell F_Triangle_init F_law_is_triangle _
end Cp
open PySem PySem.W PySem.Calls PyProof.Rows
theorem PySem.Challenge.cw_cornerplane_k48_whole_triangles_have_one_holds : PySem.Challenge.rw_cornerplane_k48_whole_triangles_have_one.Holds := by
  w_on; o_law
  refine HandSHeadRun.head_any (r := OpenLaw.row PySem.Challenge.rw_cornerplane_k48_whole_triangles_have_one) (q := view (OpenLaw.row PySem.Challenge.rw_cornerplane_k48_whole_triangles_have_one).prog [66]) (H := Cp.hk) (ob := Cp.ob) (M := 4000) (loose := Cp.loose) (d := HandSHeadRun.topDef (OpenLaw.row PySem.Challenge.rw_cornerplane_k48_whole_triangles_have_one).prog 66) (kwd := []) Cp.ob_eq
    (by kernel_rfl) (fun s => by kernel_rfl) Cp.run (by kernel_rfl) (by kernel_rfl) (by kernel_rfl) (by rfl) (by first | assumption | decide +kernel) (by decide +kernel) ⟨rfl, rfl, rfl, rfl, rfl, by decide +kernel⟩ ?hw ?hc
  case hw => w_witness2
  case hc =>
    refine LamX.walk_ofTsE (l := PySem.Challenge.rw_cornerplane_k48_whole_triangles_have_one) (n := 63) (k := 10) (x := "_law_script") (CX := fun _ => L2.CX0) rfl (by decide) (by kernel_rfl) ⟨rfl, by decide, by decide⟩ ?F (fun _ _ _ _ _ z => z)
    intro w mg fa0 h Y G hmg0
    obtain ⟨K, KX, c, ea⟩ := Y
    have hmg : mg ("law" : PySem.Str) = some (.ref fa0) := by
      have e : (HandSHeadRun.topDef (OpenLaw.row PySem.Challenge.rw_cornerplane_k48_whole_triangles_have_one).prog 66).name = ("law" : PySem.Str) := by kernel_rfl
      rw [← e]
      exact hmg0
    exact ⟨K, KX, Cp.facts KX G c ea hmg⟩
end
